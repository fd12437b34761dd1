import PyProof.Rows.All
import Wide.All
import OpenK.AllK
import Wide.FinOn
import KE.KStateDown
import Lean
import HandS.ForMost
import HandS.Defaults
import HandS.Head0
import HandS.Head1
import HandS.Head2
import HandS.HeadEnd
import HandS.HeadHook1
import HandS.HeadHook2
import HandS.TupAny
import HandS.Style
import HandS.Deep
import HandS.Flow
import HandS.TupMul
import KE.KTupSum
import KE.DataMinMax
import HandS.Zip
import HandS.NoneIn
import PySem.Challenge.RW_tablewright_k69_whole_kinds
set_option Elab.async false
set_option linter.all false
/-! Ev1: a small language of values (no heap, no frames) and its runs. -/
namespace Ev
open PySem
abbrev D := PyData
abbrev En := List (Option D)
/-- the drawing state's outer list (its lists of ints hold the script's cells) -/
abbrev Tape := Option (List D)
abbrev R := Option (D × Tape)
abbrev CF := Nat → List D → Tape → R
/-- how a slot stands: unknown, a frozen datum, a frozen dict (keys ints and texts; tuples), the drawing state, its inner list, an own list of frozen items, an own list of own lists, an own dict (keys ints and texts; tuples) -/
inductive Ty | u | p | pK | pT | st | cl | o | oo | dK | dT deriving DecidableEq
inductive BOp | add | sub | mul | mod | fdiv | pow deriving DecidableEq
inductive COp | eq | ne | lt | le | gt | ge | isin | notin deriving DecidableEq
inductive B1 | len | tuple | list | int | abs | sum | max | min | all | any | sorted | sset | lset | repr | lrange | trange deriving DecidableEq
inductive B2 | max | min deriving DecidableEq
inductive IK | seq | r1 | r2 | enum | zip | items deriving DecidableEq
inductive Mt | index | get1 | get2 | count deriving DecidableEq
inductive Tg | n (i : Nat) | t (ts : List Tg) | l (ts : List Tg)
inductive IE
  | v (i : Nat)
  | c (d : D)
  | yes
  | tup (es : List IE) | lst (es : List IE)
  | dct (kes : List IE)
  | dnew (t : Bool)
  | dix (t : Bool) (a b : IE)
  | din (t neg : Bool) (a b : IE)
  | dget (t : Bool) (a b c : IE)
  | dlen (t : Bool) (a : IE)
  | bin (o : BOp) (a b : IE)
  | cmp (o : COp) (a b : IE)
  | cmp2 (o o' : COp) (a b c : IE)
  | isN (a : IE) | notN (a : IE)
  | and (a b : IE) | or (a b : IE) | not (a : IE)
  | ite (c a b : IE)
  | ix (a b : IE)
  | slF (a lo : IE) | slT (a hi : IE) | slB (a lo hi : IE) | rev (a : IE)
  | b1 (f : B1) (a : IE) | b2 (f : B2) (a b : IE)
  | call (f : Nat) (es : List IE)
  | mth (m : Mt) (a : IE) (es : List IE)
  | comp (own : List Nat) (tg : Tg) (k : IK) (args : List IE) (cond elt : IE)
  | comp2 (own : List Nat) (tg : Tg) (k : IK) (args : List IE) (cond : IE) (tg2 : Tg) (k2 : IK) (args2 : List IE) (cond2 elt : IE)
  | dcomp (own : List Nat) (tg : Tg) (k : IK) (args : List IE) (cond key elt : IE)
  | stx (i n : Nat) | clen (i : Nat) | cix (i : Nat) (e : IE)
  | dcst (kvs : List (Str × D)) (e : IE)
inductive IS
  | set (tg : Tg) (e : IE)
  | own (i : Nat) (t : Ty) (e : IE)
  | par (i j : Nat) (a b : IE)
  | setix (i : Nat) (k e : IE)
  | setix2 (i : Nat) (k1 k2 e : IE)
  | setd (t : Bool) (i : Nat) (k e : IE)
  | app (i : Nat) (e : IE)
  | ext (i : Nat) (e : IE)
  | pop (j i : Nat)
  | ex (e : IE)
  | ret (e : IE) | retN
  | ite (c : IE) (a b : List IS)
  | for (tg : Tg) (k : IK) (args : List IE) (body : List IS) (kill : List Nat) (G : List Ty)
  | whl (c : IE) (body : List IS) (kill : List Nat) (G : List Ty)
  | brk | cont
  | frz (i : Nat)
  | cget (j i n : Nat)
  | cset (i : Nat) (k e : IE)
  | sset (i n : Nat) (e : IE)
  | retSt (i : Nat) (tm : List (Option Int))
inductive Out
  | nx (γ : En) (τ : Tape) | bk (γ : En) (τ : Tape) | ct (γ : En) (τ : Tape) | rt (d : D) (τ : Tape)
def rd (γ : En) (i : Nat) : Option D := γ.getD i none
def kill (γ : En) (ks : List Nat) : En := ks.foldl (fun g i => g.set i none) γ
mutual
/-- a target takes a value -/
def bindT : Tg → D → En → Option En
  | .n i, x, γ => some (γ.set i (some x))
  | .t ts, .tuple xs, γ => bindTs ts xs γ
  | .l ts, .list xs, γ => bindTs ts xs γ
  | _, _, _ => none
def bindTs : List Tg → List D → En → Option En
  | [], [], γ => some γ
  | t :: ts, x :: xs, γ => (bindT t x γ).bind fun g => bindTs ts xs g
  | _, _, _ => none
end
def isNoneD : D → Bool
  | .none => true
  | _ => false
def truth : D → Option Bool
  | .none => some false
  | .bool b => some b
  | .int i => some (i != 0)
  | .str x => if x.length ≤ sizeLine then some ((x.length : Int) != 0) else none
  | .list xs => some (!xs.isEmpty)
  | .tuple xs => some (!xs.isEmpty)
  | .dict _ => none
/-! ### operators -/
def opMulI (i j : Int) : Option D := if i.natAbs < 18446744073709551616 ∨ j.natAbs < 18446744073709551616 then some (.int (i * j)) else none
def opAdd : D → D → Option D
  | .int i, .int j => some (.int (i + j))
  | .list xs, .list ys => if xs.length + ys.length ≤ sizeLine then some (.list (xs ++ ys)) else none
  | .tuple xs, .tuple ys => if xs.length + ys.length ≤ sizeLine then some (.tuple (xs ++ ys)) else none
  | _, _ => none
def opSub : D → D → Option D
  | .int i, .int j => some (.int (i - j))
  | _, _ => none
def opMul : D → D → Option D
  | .int i, .int j => opMulI i j
  | .tuple xs, .int j => if (List.replicate j.toNat xs).flatten.length ≤ sizeLine ∧ j.natAbs ≤ 1000 ∧ xs.length ≤ 1000 then some (.tuple (List.replicate j.toNat xs).flatten) else none
  | _, _ => none
def opMod : D → D → Option D
  | .int i, .int j => if 0 < j then some (.int (i % j)) else none
  | _, _ => none
def opDiv : D → D → Option D
  | .int i, .int j => if 0 < j ∧ j.natAbs < 1073741824 then some (.int (i / j)) else none
  | _, _ => none
def opPow : D → D → Option D
  | .int i, .int j => if 0 ≤ j ∧ j.natAbs ≤ 1000000 ∧ i.natAbs < 2 ^ 64 then some (.int (i ^ j.toNat)) else none
  | _, _ => none
def opBin : BOp → D → D → Option D
  | .add => opAdd | .sub => opSub | .mul => opMul | .mod => opMod | .fdiv => opDiv | .pow => opPow
/-- of two data at least one is of small depth -/
def shallow (x y : D) : Bool := decide (x.depth ≤ 100) || decide (y.depth ≤ 100)
/-- a key of a dict: an int or a text; a tuple of such -/
def keyB : D → Bool
  | .int _ => true
  | .str _ => true
  | _ => false
def keyF : Bool → D → Bool
  | false, x => keyB x
  | true, .tuple xs => xs.all keyB
  | true, _ => false
def dget : List (D × D) → D → Option D
  | [], _ => none
  | (k, v) :: r, x => if PyData.eqv k x then some v else dget r x
def dput : List (D × D) → D → D → List (D × D)
  | [], x, y => [(x, y)]
  | (k, v) :: r, x, y => if PyData.eqv k x then (k, y) :: r else (k, v) :: dput r x y
def cInt (p : Int → Int → Bool) : D → D → Option Bool
  | .int i, .int j => some (p i j)
  | _, _ => none
def cEq (x y : D) : Option Bool := if shallow x y then some (PyData.eqv x y) else none
def seqOf : D → Option (List D)
  | .list xs => some xs
  | .tuple xs => some xs
  | _ => none
def cIn (x y : D) : Option Bool := (seqOf y).bind fun ys => if x.depth ≤ 100 then some (ys.any fun z => PyData.eqv z x) else none
def opCmp : COp → D → D → Option Bool
  | .eq => cEq
  | .ne => fun x y => (cEq x y).map (!·)
  | .lt => cInt fun i j => decide (i < j)
  | .le => cInt fun i j => decide (i ≤ j)
  | .gt => cInt fun i j => decide (j < i)
  | .ge => cInt fun i j => decide (j ≤ i)
  | .isin => cIn
  | .notin => fun x y => (cIn x y).map (!·)
def opIx : D → D → Option D
  | .list xs, .int i => L2.atI xs i
  | .tuple xs, .int i => L2.atI xs i
  | _, _ => none
def dictOf : D → Option (List (D × D))
  | .dict kvs => some kvs
  | _ => none
def opDix (t : Bool) (m x : D) : Option D := (dictOf m).bind fun kvs => if keyF t x then dget kvs x else none
def opDin (t neg : Bool) (x m : D) : Option D := (dictOf m).bind fun kvs => if keyF t x then some (.bool (if neg then !(dget kvs x).isSome else (dget kvs x).isSome)) else none
def opDget (t : Bool) (m x y : D) : Option D := (dictOf m).bind fun kvs => if keyF t x then some ((dget kvs x).getD y) else none
def opDput (t : Bool) (m x y : D) : Option D := (dictOf m).bind fun kvs => if keyF t x ∧ kvs.length < sizeLine then some (.dict (dput kvs x y)) else none
def cutD (xs : List D) (lo hi : Option Int) : List D := (xs.drop (HT.sIx xs.length 0 lo)).take (HT.sIx xs.length xs.length hi - HT.sIx xs.length 0 lo)
def opSl : D → Option Int → Option Int → Option D
  | .list xs, lo, hi => some (.list (cutD xs lo hi))
  | .tuple xs, lo, hi => some (.tuple (cutD xs lo hi))
  | _, _, _ => none
def intOf : D → Option Int
  | .int i => some i
  | _ => none
def intsOf : List D → Option (List Int)
  | [] => some []
  | .int i :: r => (intsOf r).map (i :: ·)
  | _ :: _ => none
def boolsOf : List D → Option (List Bool)
  | [] => some []
  | .bool b :: r => (boolsOf r).map (b :: ·)
  | _ :: _ => none
def maxI : List Int → Option Int
  | [] => none
  | x :: r => some (r.foldl max x)
def minI : List Int → Option Int
  | [] => none
  | x :: r => some (r.foldl min x)
def bLen : D → Option D
  | .list xs => some (.int xs.length)
  | .tuple xs => some (.int xs.length)
  | _ => none
def bTup : D → Option D
  | .list xs => some (.tuple xs)
  | .tuple xs => some (.tuple xs)
  | _ => none
def bLst : D → Option D
  | .list xs => some (.list xs)
  | .tuple xs => some (.list xs)
  | _ => none
def bInt : D → Option D
  | .int i => some (.int i)
  | .bool b => some (.int (if b then 1 else 0))
  | _ => none
def bAbs : D → Option D
  | .int i => some (.int (if i < 0 then -i else i))
  | _ => none
def listOf : D → Option (List D)
  | .list xs => some xs
  | _ => none
def bSum (x : D) : Option D := ((seqOf x).bind intsOf).map fun ns => .int ns.sum
def bMax (x : D) : Option D := ((seqOf x).bind intsOf).bind fun ns => (maxI ns).map .int
def bMin (x : D) : Option D := ((seqOf x).bind intsOf).bind fun ns => (minI ns).map .int
def bAll (x : D) : Option D := ((listOf x).bind boolsOf).map fun bs => .bool (bs.all id)
def bAny (x : D) : Option D := ((listOf x).bind boolsOf).map fun bs => .bool (bs.any id)
def opB1 : B1 → D → Option D
  | .len => bLen | .tuple => bTup | .list => bLst | .int => bInt | .abs => bAbs
  | .sum => bSum | .max => bMax | .min => bMin | .all => bAll | .any => bAny
  | _ => fun _ => none
def i2 (f : Int → Int → Int) : D → D → Option D
  | .int i, .int j => some (.int (f i j))
  | _, _ => none
def opB2 : B2 → D → D → Option D
  | .max => i2 fun i j => if j > i then j else i
  | .min => i2 fun i j => if j < i then j else i
/-- the first place of an equal item -/
def ixOf (x : D) : List D → Option Nat
  | [] => none
  | z :: r => if PyData.eqv z x then some 0 else (ixOf x r).map (· + 1)
def mIndex (x : D) (as : List D) : Option D := match as with
  | [y] => (listOf x).bind fun xs => if y.depth ≤ 100 then (ixOf y xs).map fun j => .int (j : Nat) else none
  | _ => none
def opMth : Mt → D → List D → Option D
  | .index => mIndex
  | _ => fun _ _ => none
def rangeD (a : Int) (n : Nat) : List D := (List.range n).map fun i => .int (a + (i : Nat))
def itSeq : List D → Option (List D)
  | [x] => seqOf x
  | _ => none
def itR1 : List D → Option (List D)
  | [.int n] => if n.natAbs < 4611686018427387904 then some (rangeD 0 n.toNat) else none
  | _ => none
def itR2 : List D → Option (List D)
  | [.int a, .int b] => if a.natAbs < 4611686018427387904 ∧ b.natAbs < 4611686018427387904 then some (rangeD a (b - a).toNat) else none
  | _ => none
def itEnum : List D → Option (List D)
  | [.list xs] => some (xs.zipIdx.map fun p => .tuple [.int (p.2 : Nat), p.1])
  | _ => none
def itZip : List D → Option (List D)
  | [.list xs, .list ys] => some ((xs.zip ys).map fun p => .tuple [p.1, p.2])
  | [.tuple xs, .tuple ys] => some ((xs.zip ys).map fun p => .tuple [p.1, p.2])
  | _ => none
def items : IK → List D → Option (List D)
  | .seq => itSeq | .r1 => itR1 | .r2 => itR2 | .enum => itEnum | .zip => itZip
  | .items => fun _ => none
/-- the walks whose number of turns may be beyond a list's length -/
def lenOk (k : IK) (xs : List D) : Bool := match k with
  | .r1 | .r2 => decide (xs.length ≤ sizeLine)
  | _ => true
def updIx : D → D → D → Option D
  | .list xs, .int i, y => (L2.ixN xs.length i).map fun j => .list (xs.set j y)
  | _, _, _ => none
def updIx2 : D → D → D → D → Option D
  | .list xs, .int i, k, y => (L2.ixN xs.length i).bind fun j => (xs[j]?).bind fun l => match l with
    | .list ys => (updIx (.list ys) k y).map fun l' => .list (xs.set j l')
    | _ => none
  | _, _, _, _ => none
def pairUp : List D → Option (List (D × D))
  | [] => some []
  | k :: v :: r => (pairUp r).map ((k, v) :: ·)
  | [_] => none
/-! ### the drawing state -/
def isIntD : D → Option Int
  | .int k => some k
  | _ => none
def isListD : D → Option (List D)
  | .list cs => some cs
  | _ => none
def tapeInt (τ : Tape) (n : Nat) : Option Int := τ.bind fun l => (l[n]?).bind isIntD
def tapeCells (τ : Tape) : Option (List D) := τ.bind fun l => l.findSome? isListD
def setCells (l : List D) (cs : List D) : List D := l.map fun d => if (isListD d).isSome then .list cs else d
def tmL (tm : List (Option Int)) (cs : List D) : List D := tm.map fun o => match o with | some k => .int k | none => .list cs
/-- the last pair of a key -/
def lastK (kvs : List (Str × D)) (x : Str) : Option D := kvs.foldl (fun acc p => if x = p.1 then some p.2 else acc) none
def strOf : D → Option Str
  | .str x => some x
  | _ => none
/-! ### runs -/
def compL (f : D → Tape → Option (Option D × Tape)) : List D → Tape → Option (List D × Tape)
  | [], τ => some ([], τ)
  | x :: xs, τ => (f x τ).bind fun r => (compL f xs r.2).map fun q => (r.1.toList ++ q.1, q.2)
def compLs (f : D → Tape → Option (List D × Tape)) : List D → Tape → Option (List D × Tape)
  | [], τ => some ([], τ)
  | x :: xs, τ => (f x τ).bind fun r => (compLs f xs r.2).map fun q => (r.1 ++ q.1, q.2)
def forL (f : D → En → Tape → Option Out) (ks : List Nat) : List D → En → Tape → Option Out
  | [], γ, τ => some (.nx γ τ)
  | x :: xs, γ, τ => (f x γ τ).bind fun o => match o with
    | .nx γ' τ' => forL f ks xs (kill γ' ks) τ'
    | .ct γ' τ' => forL f ks xs (kill γ' ks) τ'
    | .bk γ' τ' => some (.nx (kill γ' ks) τ')
    | .rt d τ' => some (.rt d τ')
def whileL (c : En → Tape → Option (Bool × Tape)) (f : En → Tape → Option Out) (ks : List Nat) : Nat → En → Tape → Option Out
  | 0, _, _ => none
  | m + 1, γ, τ => (c γ τ).bind fun p => if p.1 then (f γ p.2).bind fun o => match o with
      | .nx γ' τ' => whileL c f ks m (kill γ' ks) τ'
      | .ct γ' τ' => whileL c f ks m (kill γ' ks) τ'
      | .bk γ' τ' => some (.nx (kill γ' ks) τ')
      | .rt d τ' => some (.rt d τ')
    else some (.nx γ p.2)
def bigL : Nat := 10 ^ 30
/-- a test: the truth of what comes -/
def tst (r : R) : Option (Bool × Tape) := r.bind fun p => (truth p.1).map fun k => (k, p.2)
mutual
def evalE (cf : CF) : IE → En → Tape → R
  | .v i, γ, τ => (rd γ i).map fun d => (d, τ)
  | .c d, _, τ => some (d, τ)
  | .yes, _, τ => some (.bool true, τ)
  | .tup es, γ, τ => (evalEs cf es γ τ).map fun p => (.tuple p.1, p.2)
  | .lst es, γ, τ => (evalEs cf es γ τ).map fun p => (.list p.1, p.2)
  | .dct es, γ, τ => (evalEs cf es γ τ).bind fun p => (pairUp p.1).bind fun ps => if ps.all (fun q => keyB q.1) then some (.dict (ps.foldl (fun m q => dput m q.1 q.2) []), p.2) else none
  | .dnew _, _, τ => some (.dict [], τ)
  | .dix t a b, γ, τ => (evalE cf a γ τ).bind fun p => (evalE cf b γ p.2).bind fun q => (opDix t p.1 q.1).map fun d => (d, q.2)
  | .din t neg a b, γ, τ => (evalE cf a γ τ).bind fun p => (evalE cf b γ p.2).bind fun q => (opDin t neg p.1 q.1).map fun d => (d, q.2)
  | .dget t a b c, γ, τ => (evalE cf a γ τ).bind fun p => (evalE cf b γ p.2).bind fun q => (evalE cf c γ q.2).bind fun r => (opDget t p.1 q.1 r.1).map fun d => (d, r.2)
  | .dlen _ a, γ, τ => (evalE cf a γ τ).bind fun p => (dictOf p.1).map fun kvs => (.int kvs.length, p.2)
  | .bin o a b, γ, τ => (evalE cf a γ τ).bind fun p => (evalE cf b γ p.2).bind fun q => (opBin o p.1 q.1).map fun d => (d, q.2)
  | .cmp o a b, γ, τ => (evalE cf a γ τ).bind fun p => (evalE cf b γ p.2).bind fun q => (opCmp o p.1 q.1).map fun d => (.bool d, q.2)
  | .cmp2 o o' a b c, γ, τ => (evalE cf a γ τ).bind fun p => (evalE cf b γ p.2).bind fun q => (opCmp o p.1 q.1).bind fun d =>
      if d then (evalE cf c γ q.2).bind fun r => (opCmp o' q.1 r.1).map fun d' => (.bool d', r.2) else some (.bool false, q.2)
  | .isN a, γ, τ => (evalE cf a γ τ).map fun p => (.bool (isNoneD p.1), p.2)
  | .notN a, γ, τ => (evalE cf a γ τ).map fun p => (.bool (!isNoneD p.1), p.2)
  | .and a b, γ, τ => (evalE cf a γ τ).bind fun p => (truth p.1).bind fun k => if k then evalE cf b γ p.2 else some p
  | .or a b, γ, τ => (evalE cf a γ τ).bind fun p => (truth p.1).bind fun k => if k then some p else evalE cf b γ p.2
  | .not a, γ, τ => (tst (evalE cf a γ τ)).map fun p => (.bool (!p.1), p.2)
  | .ite c a b, γ, τ => (tst (evalE cf c γ τ)).bind fun p => if p.1 then evalE cf a γ p.2 else evalE cf b γ p.2
  | .ix a b, γ, τ => (evalE cf a γ τ).bind fun p => (evalE cf b γ p.2).bind fun q => (opIx p.1 q.1).map fun d => (d, q.2)
  | .slF a lo, γ, τ => (evalE cf a γ τ).bind fun p => (evalE cf lo γ p.2).bind fun q => (intOf q.1).bind fun i => (opSl p.1 (some i) none).map fun d => (d, q.2)
  | .slT a hi, γ, τ => (evalE cf a γ τ).bind fun p => (evalE cf hi γ p.2).bind fun q => (intOf q.1).bind fun i => (opSl p.1 none (some i)).map fun d => (d, q.2)
  | .slB a lo hi, γ, τ => (evalE cf a γ τ).bind fun p => (evalE cf lo γ p.2).bind fun q => (evalE cf hi γ q.2).bind fun r => (intOf q.1).bind fun i => (intOf r.1).bind fun j => (opSl p.1 (some i) (some j)).map fun d => (d, r.2)
  | .rev a, γ, τ => (evalE cf a γ τ).bind fun p => (match p.1 with | .list xs => some (.list xs.reverse) | _ => none : Option D).map fun d => (d, p.2)
  | .b1 f a, γ, τ => (evalE cf a γ τ).bind fun p => (opB1 f p.1).map fun d => (d, p.2)
  | .b2 f a b, γ, τ => (evalE cf a γ τ).bind fun p => (evalE cf b γ p.2).bind fun q => (opB2 f p.1 q.1).map fun d => (d, q.2)
  | .call f es, γ, τ => (evalEs cf es γ τ).bind fun p => cf f p.1 p.2
  | .mth m a es, γ, τ => (evalE cf a γ τ).bind fun p => (evalEs cf es γ p.2).bind fun q => (opMth m p.1 q.1).map fun d => (d, q.2)
  | .comp _ tg k args cond elt, γ, τ => (evalEs cf args γ τ).bind fun p => (items k p.1).bind fun xs => if lenOk k xs then
      (compL (fun x t => (bindT tg x γ).bind fun g => (tst (evalE cf cond g t)).bind fun b => if b.1 then (evalE cf elt g b.2).map fun y => (some y.1, y.2) else some (none, b.2)) xs p.2).map fun q => (.list q.1, q.2) else none
  | .comp2 _ tg k args cond tg2 k2 args2 cond2 elt, γ, τ => (evalEs cf args γ τ).bind fun p => (items k p.1).bind fun xs =>
      (compLs (fun x t => (bindT tg x γ).bind fun g => (tst (evalE cf cond g t)).bind fun b => if b.1 then
        (evalEs cf args2 g b.2).bind fun p2 => (items k2 p2.1).bind fun ys => compL (fun y t2 => (bindT tg2 y g).bind fun g2 => (tst (evalE cf cond2 g2 t2)).bind fun b2 =>
          if b2.1 then (evalE cf elt g2 b2.2).map fun z => (some z.1, z.2) else some (none, b2.2)) ys p2.2
        else some ([], b.2)) xs p.2).bind fun q => if q.1.length ≤ sizeLine then some (.list q.1, q.2) else none
  | .dcomp _ _ _ _ _ _ _, _, _ => none
  | .stx _ n, _, τ => (tapeInt τ n).map fun k => (.int k, τ)
  | .clen _, _, τ => (tapeCells τ).map fun cs => (.int cs.length, τ)
  | .cix _ e, γ, τ => (evalE cf e γ τ).bind fun p => (tapeCells p.2).bind fun cs => (opIx (.list cs) p.1).map fun d => (d, p.2)
  | .dcst kvs e, γ, τ => (evalE cf e γ τ).bind fun p => (strOf p.1).bind fun x => (lastK kvs x).map fun d => (d, p.2)
def evalEs (cf : CF) : List IE → En → Tape → Option (List D × Tape)
  | [], _, τ => some ([], τ)
  | e :: es, γ, τ => (evalE cf e γ τ).bind fun p => (evalEs cf es γ p.2).map fun q => (p.1 :: q.1, q.2)
end
mutual
def execS (cf : CF) : IS → En → Tape → Option Out
  | .set tg e, γ, τ => (evalE cf e γ τ).bind fun p => (bindT tg p.1 γ).map fun g => .nx g p.2
  | .own i _ e, γ, τ => (evalE cf e γ τ).map fun p => .nx (γ.set i (some p.1)) p.2
  | .par i j a b, γ, τ => (evalE cf a γ τ).bind fun p => (evalE cf b γ p.2).map fun q => .nx ((γ.set i (some p.1)).set j (some q.1)) q.2
  | .setix i k e, γ, τ => (evalE cf e γ τ).bind fun p => (evalE cf k γ p.2).bind fun q => (rd γ i).bind fun l => (updIx l q.1 p.1).map fun l' => .nx (γ.set i (some l')) q.2
  | .setix2 i k1 k2 e, γ, τ => (evalE cf e γ τ).bind fun p => (evalE cf k1 γ p.2).bind fun q => (evalE cf k2 γ q.2).bind fun r => (rd γ i).bind fun l => (updIx2 l q.1 r.1 p.1).map fun l' => .nx (γ.set i (some l')) r.2
  | .setd t i k e, γ, τ => (evalE cf e γ τ).bind fun p => (evalE cf k γ p.2).bind fun q => (rd γ i).bind fun l => (opDput t l q.1 p.1).map fun l' => .nx (γ.set i (some l')) q.2
  | .app i e, γ, τ => (evalE cf e γ τ).bind fun p => (rd γ i).bind fun l => match l with
      | .list xs => if xs.length < sizeLine then some (.nx (γ.set i (some (.list (xs ++ [p.1])))) p.2) else none
      | _ => none
  | .ext i e, γ, τ => (evalE cf e γ τ).bind fun p => (rd γ i).bind fun l => match l, p.1 with
      | .list xs, .list ys => if xs.length + ys.length ≤ sizeLine then some (.nx (γ.set i (some (.list (xs ++ ys)))) p.2) else none
      | _, _ => none
  | .pop j i, γ, τ => (rd γ i).bind fun l => match l with
      | .list xs => (xs[xs.length - 1]?).map fun y => .nx ((γ.set i (some (.list xs.dropLast))).set j (some y)) τ
      | _ => none
  | .ex e, γ, τ => (evalE cf e γ τ).map fun p => .nx γ p.2
  | .ret e, γ, τ => (evalE cf e γ τ).map fun p => .rt p.1 p.2
  | .retN, γ, τ => some (.rt .none τ)
  | .ite c a b, γ, τ => (tst (evalE cf c γ τ)).bind fun p => if p.1 then execSs cf a γ p.2 else execSs cf b γ p.2
  | .for tg k args body ks _, γ, τ => (evalEs cf args γ τ).bind fun p => (items k p.1).bind fun xs =>
      forL (fun x g t => (bindT tg x g).bind fun g' => execSs cf body g' t) ks xs γ p.2
  | .whl c body ks _, γ, τ => whileL (fun g t => tst (evalE cf c g t)) (fun g t => execSs cf body g t) ks bigL γ τ
  | .brk, γ, τ => some (.bk γ τ)
  | .cont, γ, τ => some (.ct γ τ)
  | .frz _, γ, τ => some (.nx γ τ)
  | .cget j _ n, γ, τ => τ.bind fun l => (l[n]?).bind fun d => (isListD d).map fun _ => .nx (γ.set j (some .none)) τ
  | .cset _ k e, γ, τ => (evalE cf e γ τ).bind fun p => (evalE cf k γ p.2).bind fun q => q.2.bind fun l => (tapeCells q.2).bind fun cs => (intOf p.1).bind fun v => (intOf q.1).bind fun z => (L2.ixN cs.length z).map fun j => .nx γ (some (setCells l (cs.set j (.int v))))
  | .sset _ n e, γ, τ => (evalE cf e γ τ).bind fun p => p.2.bind fun l => (tapeInt p.2 n).bind fun _ => (intOf p.1).map fun v => .nx γ (some (l.set n (.int v)))
  | .retSt i tm, γ, τ => match τ with
    | none => (rd γ i).bind fun l => (listOf l).bind fun cs => (intsOf cs).map fun _ => .rt .none (some (tmL tm cs))
    | some _ => none
def execSs (cf : CF) : List IS → En → Tape → Option Out
  | [], γ, τ => some (.nx γ τ)
  | s :: ss, γ, τ => (execS cf s γ τ).bind fun o => match o with
      | .nx g t => execSs cf ss g t
      | o => some o
end
/-- a def: its parameters' kinds, what it hands back, its slots, its body; or a function told by itself -/
inductive Fd
  | body (pty : List Ty) (res : Ty) (nv : Nat) (b : List IS)
  | prim (pty : List Ty) (res : Ty) (g : List D → Tape → R)
def Fd.pty : Fd → List Ty
  | .body p _ _ _ => p
  | .prim p _ _ => p
def Fd.res : Fd → Ty
  | .body _ r _ _ => r
  | .prim _ r _ => r
abbrev Prg := List Fd
def runB (cf : CF) (nv : Nat) (b : List IS) (ds : List D) (τ : Tape) : R :=
  (execSs cf b (ds.map some ++ List.replicate (nv - ds.length) none) τ).bind fun o => match o with
    | .nx _ t => some (.none, t)
    | .rt d t => some (d, t)
    | _ => none
def callF (P : Prg) : Nat → Nat → List D → Tape → R
  | 0, _, _, _ => none
  | n + 1, f, ds, τ => match P[f]? with
    | some (.body _ _ nv b) => runB (callF P n) nv b ds τ
    | some (.prim _ _ g) => g ds τ
    | none => none
end Ev
set_option Elab.async false
set_option linter.all false
set_option maxRecDepth 100000
set_option autoImplicit false
/-! Ev2: how a datum stands in the layer's heap; worlds of frozen objects; the drawing state; slots. -/
namespace Ev
open PySem PySem.Spec PyProof.Rows L2
mutual
/-- v is the datum d, by the objects of B alone -/
inductive Rp (B : Hp) : V → D → Prop
  | non : Rp B .non .none
  | bl (b : Bool) : Rp B (.bl b) (.bool b)
  | int (i : Int) : Rp B (.int i) (.int i)
  | str (x : Str) : PyData.strOk x = true → Rp B (.str x) (.str x)
  | lst {a : Addr} {vs : List V} {ds : List D} : B a = some (.lst vs) → RpA B vs ds → ds.length ≤ sizeLine → Rp B (.ref a) (.list ds)
  | tup {a : Addr} {vs : List V} {ds : List D} : B a = some (.tup vs) → RpA B vs ds → ds.length ≤ sizeLine → Rp B (.ref a) (.tuple ds)
inductive RpA (B : Hp) : List V → List D → Prop
  | nil : RpA B [] []
  | cons {v : V} {vs : List V} {d : D} {ds : List D} : Rp B v d → RpA B vs ds → RpA B (v :: vs) (d :: ds)
end
mutual
theorem Rp.mono {B B' : Hp} (h : Same B B') : ∀ {v : V} {d : D}, Rp B v d → Rp B' v d
  | _, _, .non => .non
  | _, _, .bl b => .bl b
  | _, _, .int i => .int i
  | _, _, .str x k => .str x k
  | _, _, .lst e r l => .lst (h _ _ e) (RpA.mono h r) l
  | _, _, .tup e r l => .tup (h _ _ e) (RpA.mono h r) l
theorem RpA.mono {B B' : Hp} (h : Same B B') : ∀ {vs : List V} {ds : List D}, RpA B vs ds → RpA B' vs ds
  | _, _, .nil => .nil
  | _, _, .cons a r => .cons (Rp.mono h a) (RpA.mono h r)
end
section
variable {B : Hp}
theorem RpA.length : ∀ {vs : List V} {ds : List D}, RpA B vs ds → vs.length = ds.length
  | _, _, .nil => rfl
  | _, _, .cons _ r => by rw [List.length_cons, List.length_cons, RpA.length r]
theorem RpA.get : ∀ {vs : List V} {ds : List D} {j : Nat} {d : D}, RpA B vs ds → ds[j]? = some d → ∃ v, vs[j]? = some v ∧ Rp B v d
  | _, _, _, _, .nil, e => by simp at e
  | _, _, 0, _, .cons a _, e => by
    simp only [List.getElem?_cons_zero, Option.some.injEq] at e
    subst e
    exact ⟨_, rfl, a⟩
  | _, _, j + 1, _, .cons _ r, e => RpA.get (j := j) r (by simpa using e)
theorem RpA.getV : ∀ {vs : List V} {ds : List D} {j : Nat} {v : V}, RpA B vs ds → vs[j]? = some v → ∃ d, ds[j]? = some d ∧ Rp B v d
  | _, _, _, _, .nil, e => by simp at e
  | _, _, 0, _, .cons a _, e => by
    simp only [List.getElem?_cons_zero, Option.some.injEq] at e
    subst e
    exact ⟨_, rfl, a⟩
  | _, _, j + 1, _, .cons _ r, e => RpA.getV (j := j) r (by simpa using e)
theorem RpA.append : ∀ {vs ws : List V} {ds es : List D}, RpA B vs ds → RpA B ws es → RpA B (vs ++ ws) (ds ++ es)
  | _, _, _, _, .nil, s => s
  | _, _, _, _, .cons a r, s => .cons a (RpA.append r s)
theorem RpA.take : ∀ {vs : List V} {ds : List D} (n : Nat), RpA B vs ds → RpA B (vs.take n) (ds.take n)
  | _, _, 0, _ => .nil
  | _, _, _ + 1, .nil => .nil
  | _, _, n + 1, .cons a r => .cons a (RpA.take n r)
theorem RpA.drop : ∀ {vs : List V} {ds : List D} (n : Nat), RpA B vs ds → RpA B (vs.drop n) (ds.drop n)
  | _, _, 0, r => r
  | _, _, _ + 1, .nil => .nil
  | _, _, n + 1, .cons _ r => RpA.drop n r
theorem RpA.set {v : V} {d : D} (h : Rp B v d) : ∀ {vs : List V} {ds : List D} (j : Nat), RpA B vs ds → RpA B (vs.set j v) (ds.set j d)
  | _, _, _, .nil => .nil
  | _, _, 0, .cons _ r => .cons h r
  | _, _, j + 1, .cons a r => .cons a (RpA.set h j r)
theorem RpA.reverse {vs : List V} {ds : List D} (h : RpA B vs ds) : RpA B vs.reverse ds.reverse := by
  induction vs generalizing ds with
  | nil => cases h; exact .nil
  | cons v vs ih =>
    cases h with
    | cons a r =>
      rw [List.reverse_cons, List.reverse_cons]
      exact (ih r).append (.cons a .nil)
theorem RpA.rep {vs : List V} {ds : List D} (h : RpA B vs ds) : ∀ n : Nat, RpA B (List.replicate n vs).flatten (List.replicate n ds).flatten
  | 0 => .nil
  | n + 1 => by
    rw [List.replicate_succ, List.replicate_succ, List.flatten_cons, List.flatten_cons]
    exact h.append (RpA.rep h n)
theorem RpA.dropLast {vs : List V} {ds : List D} (h : RpA B vs ds) : RpA B vs.dropLast ds.dropLast := by
  rw [List.dropLast_eq_take, List.dropLast_eq_take, h.length]
  exact h.take _
theorem RpA.ints : ∀ {vs : List V} {ds : List D} {ns : List Int}, RpA B vs ds → intsOf ds = some ns → vs = ns.map V.int
  | _, _, _, .nil, e => by
    simp only [intsOf, Option.some.injEq] at e
    subst e
    rfl
  | _, _, ns, .cons (v := v) (d := d) (vs := vs) (ds := ds) a r, e => by
    cases a with
    | int i =>
      rw [intsOf] at e
      obtain ⟨ms, e1, e2⟩ := Option.map_eq_some_iff.mp e
      subst e2
      rw [List.map_cons, ← RpA.ints r e1]
    | _ => simp [intsOf] at e
theorem RpA.bools : ∀ {vs : List V} {ds : List D} {bs : List Bool}, RpA B vs ds → boolsOf ds = some bs → vs = bs.map V.bl
  | _, _, _, .nil, e => by
    simp only [boolsOf, Option.some.injEq] at e
    subst e
    rfl
  | _, _, ns, .cons (v := v) (d := d) (vs := vs) (ds := ds) a r, e => by
    cases a with
    | bl i =>
      rw [boolsOf] at e
      obtain ⟨ms, e1, e2⟩ := Option.map_eq_some_iff.mp e
      subst e2
      rw [List.map_cons, ← RpA.bools r e1]
    | _ => simp [boolsOf] at e
end
mutual
theorem Rp.dp {K : PySem.W.Frag} {B H : Hp} (h : Same B H) : ∀ {v : V} {d : D}, Rp B v d → Dp K H v d
  | _, _, .non => .non
  | _, _, .bl b => .bl b
  | _, _, .int i => .int i
  | _, _, .str x _ => .str x
  | _, _, .lst e r _ => .lst (SqL.of (h _ _ e)) (RpA.dp h r)
  | _, _, .tup e r _ => .tup (SqT.of (h _ _ e)) (RpA.dp h r)
theorem RpA.dp {K : PySem.W.Frag} {B H : Hp} (h : Same B H) : ∀ {vs : List V} {ds : List D}, RpA B vs ds → DpAll K H vs ds
  | _, _, .nil => .nil
  | _, _, .cons a r => .cons (Rp.dp h a) (RpA.dp h r)
end
mutual
theorem Rp.lay {B : Hp} : ∀ {v : V} {d : D}, Rp B v d → PyData.canLay0 d = true
  | _, _, .non => by simp only [PyData.canLay0]
  | _, _, .bl b => by simp only [PyData.canLay0]
  | _, _, .int i => by simp only [PyData.canLay0]
  | _, _, .str x k => by simpa only [PyData.canLay0] using k
  | _, _, .lst e r _ => by simpa only [PyData.canLay0] using RpA.lay r
  | _, _, .tup e r _ => by simpa only [PyData.canLay0] using RpA.lay r
theorem RpA.lay {B : Hp} : ∀ {vs : List V} {ds : List D}, RpA B vs ds → PyData.canLayAll0 ds = true
  | _, _, .nil => by simp only [PyData.canLayAll0]
  | _, _, .cons a r => by simp only [PyData.canLayAll0, Rp.lay a, RpA.lay r, Bool.and_self]
end
/-! ### dicts -/
def keyD : Key → D
  | .inl i => .int i
  | .inr x => .str x
def keyOk : Key → Prop
  | .inl _ => True
  | .inr x => PyData.strOk x = true
inductive RpK (B : Hp) : List (Key × V) → List (D × D) → Prop
  | nil : RpK B [] []
  | cons {k : Key} {v : V} {d : D} {ks : List (Key × V)} {ds : List (D × D)} : keyOk k → Rp B v d → RpK B ks ds → RpK B ((k, v) :: ks) ((keyD k, d) :: ds)
inductive RpT (B : Hp) : List (List Key × V) → List (D × D) → Prop
  | nil : RpT B [] []
  | cons {k : List Key} {v : V} {d : D} {ks : List (List Key × V)} {ds : List (D × D)} : (∀ x ∈ k, keyOk x) → k.length ≤ sizeLine → Rp B v d → RpT B ks ds → RpT B ((k, v) :: ks) ((.tuple (k.map keyD), d) :: ds)
theorem RpK.mono {B B' : Hp} (h : Same B B') : ∀ {ks : List (Key × V)} {ds : List (D × D)}, RpK B ks ds → RpK B' ks ds
  | _, _, .nil => .nil
  | _, _, .cons o a r => .cons o (a.mono h) (RpK.mono h r)
theorem RpT.mono {B B' : Hp} (h : Same B B') : ∀ {ks : List (List Key × V)} {ds : List (D × D)}, RpT B ks ds → RpT B' ks ds
  | _, _, .nil => .nil
  | _, _, .cons o l a r => .cons o l (a.mono h) (RpT.mono h r)
theorem RpK.length {B : Hp} : ∀ {ks : List (Key × V)} {ds : List (D × D)}, RpK B ks ds → ks.length = ds.length
  | _, _, .nil => rfl
  | _, _, .cons _ _ r => by rw [List.length_cons, List.length_cons, RpK.length r]
theorem RpT.length {B : Hp} : ∀ {ks : List (List Key × V)} {ds : List (D × D)}, RpT B ks ds → ks.length = ds.length
  | _, _, .nil => rfl
  | _, _, .cons _ _ _ r => by rw [List.length_cons, List.length_cons, RpT.length r]
/-! ### worlds -/
/-- what is frozen; where the drawing state stands (its outer list, its inner list) -/
structure Wd where
  B : Hp
  st : Option (Addr × Addr)
def Wd.tp (W : Wd) (a : Addr) : Prop := ∃ x c, W.st = some (x, c) ∧ (a = x ∨ a = c)
def Wd.add (W : Wd) (p : Addr) (o : HO) : Wd := { W with B := upd W.B p o }
/-- an item of the drawing state's outer list -/
def tv (c : Addr) : D → V
  | .int i => .int i
  | _ => .ref c
inductive TapeOk (W : Wd) : Tape → Hp → Prop
  | off {H : Hp} : W.st = none → TapeOk W none H
  | on {H : Hp} {l : List D} (a c : Addr) (cells : List Int) : W.st = some (a, c) → a ≠ c → W.B a = none → W.B c = none → H c = some (.lst (cells.map V.int)) → cells.length ≤ sizeLine →
      H a = some (.lst (l.map (tv c))) → l.length ≤ sizeLine → (∀ d ∈ l, (∃ i, d = .int i) ∨ d = .list (cells.map .int)) → TapeOk W (some l) H
structure WI (W : Wd) (τ : Tape) (H : Hp) : Prop where
  sub : Same W.B H
  tape : TapeOk W τ H
/-- a step: the heap grows, what is frozen stays, only the drawing state changes -/
structure FrE (W : Wd) (H : Hp) (W' : Wd) (H' : Hp) : Prop where
  st : ∀ x, W.st = some x → W'.st = some x
  stn : ∀ a, W'.tp a → W.tp a ∨ H a = none
  B : Same W.B W'.B
  nb : ∀ a, W'.B a ≠ none → W.B a ≠ none ∨ H a = none
  hp : ∀ a o, H a = some o → ¬ W.tp a → H' a = some o
  Ht : ∀ a, H a ≠ none → H' a ≠ none
theorem FrE.refl (W : Wd) (H : Hp) : FrE W H W H := ⟨fun _ h => h, fun _ h => .inl h, Same.refl _, fun _ h => .inl h, fun _ _ h _ => h, fun _ h => h⟩
theorem FrE.tpof {W W' : Wd} {H H' : Hp} (f : FrE W H W' H') {a : Addr} (h : W.tp a) : W'.tp a := by
  obtain ⟨x, c, e, r⟩ := h
  exact ⟨x, c, f.st _ e, r⟩
theorem FrE.ntp {W W' : Wd} {H H' : Hp} (f : FrE W H W' H') {a : Addr} {o : HO} (h : H a = some o) (n : ¬ W.tp a) : ¬ W'.tp a := fun t => by
  rcases f.stn a t with z | z
  · exact n z
  · rw [h] at z
    cases z
theorem FrE.trans {W W1 W2 : Wd} {H H1 H2 : Hp} (f : FrE W H W1 H1) (g : FrE W1 H1 W2 H2) : FrE W H W2 H2 := by
  have nn : ∀ a, H1 a = none → H a = none := fun a h => by
    cases q : H a with
    | none => rfl
    | some o => exact absurd h (f.Ht a (by rw [q]; exact fun z => nomatch z))
  refine ⟨fun x h => g.st x (f.st x h), fun a h => ?_, f.B.trans g.B, fun a h => ?_, fun a o h n => ?_, fun a h => g.Ht a (f.Ht a h)⟩
  · rcases g.stn a h with z | z
    · exact f.stn a z
    · exact .inr (nn a z)
  · rcases g.nb a h with z | z
    · exact f.nb a z
    · exact .inr (nn a z)
  · exact g.hp a o (f.hp a o h n) (f.ntp h n)
theorem FrE.free {W W' : Wd} {H H' : Hp} (f : FrE W H W' H') {a : Addr} (h : H' a = none) : H a = none := by
  cases q : H a with
  | none => rfl
  | some o => exact absurd h (f.Ht a (by rw [q]; exact fun z => nomatch z))
/-- a frozen object is none of the drawing state's -/
theorem WI.notp {W : Wd} {τ : Tape} {H : Hp} (w : WI W τ H) {a : Addr} {o : HO} (h : W.B a = some o) : ¬ W.tp a := by
  rintro ⟨x, c, e, r⟩
  cases w.tape with
  | off e' => rw [e] at e'; cases e'
  | on x' c' cells e' n h1 h2 =>
    rw [e] at e'
    cases e'
    rcases r with rfl | rfl
    · rw [h] at h1; cases h1
    · rw [h] at h2; cases h2
theorem WI.tpx {W : Wd} {τ : Tape} {H : Hp} (w : WI W τ H) {a : Addr} (h : W.tp a) : ∃ xs, H a = some (.lst xs) := by
  obtain ⟨x, c, e, r⟩ := h
  cases w.tape with
  | off e' => rw [e] at e'; cases e'
  | on x' c' cells e' n h1 h2 e1 l1 e2 =>
    rw [e] at e'
    cases e'
    rcases r with rfl | rfl
    · exact ⟨_, e2⟩
    · exact ⟨_, e1⟩
/-- a new object, frozen at once -/
theorem new_obj {W : Wd} {τ : Tape} {H : Hp} (w : WI W τ H) {p : Addr} (o : HO) (hp : H p = none) : FrE W H (W.add p o) (upd H p o) ∧ WI (W.add p o) τ (upd H p o) := by
  have bp : W.B p = none := w.sub.free hp
  have ntp : ∀ a, W.tp a → a ≠ p := fun a t e => by
    obtain ⟨xs, q⟩ := w.tpx t
    rw [e, hp] at q
    cases q
  refine ⟨⟨fun _ h => h, fun _ h => .inl h, fun b x e => ?_, fun a h => ?_, fun a x e _ => ?_, fun a h => ?_⟩, ⟨fun b x e => ?_, ?_⟩⟩
  · show upd W.B p o b = some x
    rw [upd_ne (ne_of_none e bp)]
    exact e
  · by_cases e : a = p
    · exact .inr (e ▸ hp)
    · have h : upd W.B p o a ≠ none := h
      rw [upd_ne e] at h
      exact .inl h
  · rw [upd_ne (ne_of_none e hp)]
    exact e
  · by_cases e : a = p
    · exact absurd (e ▸ hp) h
    · rw [upd_ne e]
      exact h
  · have e : upd W.B p o b = some x := e
    by_cases k : b = p
    · subst k
      rw [upd_same] at e ⊢
      exact e
    · rw [upd_ne k] at e ⊢
      exact w.sub b x e
  · cases w.tape with
    | off e => exact .off e
    | on a c cells e n h1 h2 e1 l1 e2 l2 al =>
      have na : a ≠ p := ntp a ⟨a, c, e, .inl rfl⟩
      have nc : c ≠ p := ntp c ⟨a, c, e, .inr rfl⟩
      refine .on a c cells e n ?_ ?_ ?_ l1 ?_ l2 al
      · show upd W.B p o a = none
        rw [upd_ne na]; exact h1
      · show upd W.B p o c = none
        rw [upd_ne nc]; exact h2
      · rw [upd_ne nc]; exact e1
      · rw [upd_ne na]; exact e2
theorem WI.none_ {W : Wd} {τ : Tape} {H : Hp} (w : WI W τ H) {p : Addr} (h : H p = none) : W.B p = none := w.sub.free h
/-! ### operands: frozen data, or own lists and dicts that stand -/
def OwnL (W : Wd) (H : Hp) (v : V) (ds : List D) : Prop := ∃ a vs, v = .ref a ∧ H a = some (.lst vs) ∧ ¬ W.tp a ∧ RpA W.B vs ds ∧ ds.length ≤ sizeLine
def OwnK (W : Wd) (H : Hp) (v : V) (ds : List (D × D)) : Prop := ∃ a ks, v = .ref a ∧ H a = some (.dK ks) ∧ ¬ W.tp a ∧ RpK W.B ks ds
def OwnT (W : Wd) (H : Hp) (v : V) (ds : List (D × D)) : Prop := ∃ a ks, v = .ref a ∧ H a = some (.dT ks) ∧ ¬ W.tp a ∧ RpT W.B ks ds
def Opd (W : Wd) (H : Hp) (v : V) (d : D) : Prop := Rp W.B v d ∨ ∃ ds, d = .list ds ∧ OwnL W H v ds
/-- an operand that is a dict -/
def OpdD (t : Bool) (W : Wd) (H : Hp) (v : V) (d : D) : Prop := ∃ ds, d = .dict ds ∧ if t then OwnT W H v ds else OwnK W H v ds
/-- a frozen dict -/
def RpD (t : Bool) (B : Hp) (v : V) (d : D) : Prop := ∃ a ds, v = .ref a ∧ d = .dict ds ∧ if t then ∃ ks, B a = some (.dT ks) ∧ RpT B ks ds else ∃ ks, B a = some (.dK ks) ∧ RpK B ks ds
/-- a value as a def takes it or hands it back -/
def Jv (W : Wd) : Ty → V → D → Prop
  | .p => Rp W.B
  | .pK => RpD false W.B
  | .pT => RpD true W.B
  | .st => fun v d => d = .none ∧ ∃ a c, v = .ref a ∧ W.st = some (a, c)
  | _ => fun _ _ => False
section
variable {W W' : Wd} {H H' : Hp} {τ : Tape} {v : V} {d : D}
theorem OwnL.mono (f : FrE W H W' H') {ds : List D} (h : OwnL W H v ds) : OwnL W' H' v ds := by
  obtain ⟨a, vs, e, h1, n, r, l⟩ := h
  exact ⟨a, vs, e, f.hp a _ h1 n, f.ntp h1 n, r.mono f.B, l⟩
theorem OwnK.mono (f : FrE W H W' H') {ds : List (D × D)} (h : OwnK W H v ds) : OwnK W' H' v ds := by
  obtain ⟨a, vs, e, h1, n, r⟩ := h
  exact ⟨a, vs, e, f.hp a _ h1 n, f.ntp h1 n, r.mono f.B⟩
theorem OwnT.mono (f : FrE W H W' H') {ds : List (D × D)} (h : OwnT W H v ds) : OwnT W' H' v ds := by
  obtain ⟨a, vs, e, h1, n, r⟩ := h
  exact ⟨a, vs, e, f.hp a _ h1 n, f.ntp h1 n, r.mono f.B⟩
theorem Opd.mono (f : FrE W H W' H') (h : Opd W H v d) : Opd W' H' v d := by
  rcases h with h | ⟨ds, e, h⟩
  · exact .inl (h.mono f.B)
  · exact .inr ⟨ds, e, h.mono f⟩
theorem OpdD.mono {t : Bool} (f : FrE W H W' H') (h : OpdD t W H v d) : OpdD t W' H' v d := by
  obtain ⟨ds, e, h⟩ := h
  refine ⟨ds, e, ?_⟩
  cases t with
  | true => exact OwnT.mono f h
  | false => exact OwnK.mono f h
theorem RpD.mono {t : Bool} {B B' : Hp} (h : Same B B') (r : RpD t B v d) : RpD t B' v d := by
  obtain ⟨a, ds, e, e', q⟩ := r
  refine ⟨a, ds, e, e', ?_⟩
  cases t with
  | true =>
    obtain ⟨ks, h1, h2⟩ := q
    exact ⟨ks, h _ _ h1, h2.mono h⟩
  | false =>
    obtain ⟨ks, h1, h2⟩ := q
    exact ⟨ks, h _ _ h1, h2.mono h⟩
theorem RpD.opd {t : Bool} (w : WI W τ H) (r : RpD t W.B v d) : OpdD t W H v d := by
  obtain ⟨a, ds, e, e', q⟩ := r
  refine ⟨ds, e', ?_⟩
  cases t with
  | true =>
    obtain ⟨ks, h1, h2⟩ := q
    exact ⟨a, ks, e, w.sub _ _ h1, w.notp h1, h2⟩
  | false =>
    obtain ⟨ks, h1, h2⟩ := q
    exact ⟨a, ks, e, w.sub _ _ h1, w.notp h1, h2⟩
theorem Jv.mono (f : FrE W H W' H') {t : Ty} (h : Jv W t v d) : Jv W' t v d := by
  cases t with
  | p => exact Rp.mono f.B h
  | pK => exact RpD.mono f.B h
  | pT => exact RpD.mono f.B h
  | st =>
    obtain ⟨e, a, c, h1, h2⟩ := h
    exact ⟨e, a, c, h1, f.st _ h2⟩
  | _ => exact h.elim
theorem Opd.int {i : Int} (h : Opd W H v (.int i)) : v = .int i := by
  rcases h with h | ⟨ds, e, h⟩
  · cases h; rfl
  · cases e
theorem Opd.bool {b : Bool} (h : Opd W H v (.bool b)) : v = .bl b := by
  rcases h with h | ⟨ds, e, h⟩
  · cases h; rfl
  · cases e
theorem Opd.none_ (h : Opd W H v .none) : v = .non := by
  rcases h with h | ⟨ds, e, h⟩
  · cases h; rfl
  · cases e
theorem Opd.str {x : Str} (h : Opd W H v (.str x)) : v = .str x ∧ PyData.strOk x = true := by
  rcases h with h | ⟨ds, e, h⟩
  · cases h with
    | str _ k => exact ⟨rfl, k⟩
  · cases e
theorem Opd.list (w : WI W τ H) {ds : List D} (h : Opd W H v (.list ds)) : OwnL W H v ds := by
  rcases h with h | ⟨ds', e, h⟩
  · cases h with
    | lst e r l => exact ⟨_, _, rfl, w.sub _ _ e, w.notp e, r, l⟩
  · cases e; exact h
theorem Opd.tup {ds : List D} (h : Opd W H v (.tuple ds)) : ∃ a vs, v = .ref a ∧ W.B a = some (.tup vs) ∧ RpA W.B vs ds ∧ ds.length ≤ sizeLine := by
  rcases h with h | ⟨ds', e, h⟩
  · cases h with
    | tup e r l => exact ⟨_, _, rfl, e, r, l⟩
  · cases e
theorem Opd.tupR {ds : List D} (h : Opd W H v (.tuple ds)) : Rp W.B v (.tuple ds) := by
  rcases h with h | ⟨ds', e, h⟩
  · exact h
  · cases e
theorem Opd.nodict {ds : List (D × D)} (h : Opd W H v (.dict ds)) : False := by
  rcases h with h | ⟨ds', e, h⟩
  · cases h
  · cases e
theorem Opd.non_iff (h : Opd W H v d) : v = .non ↔ d = .none := by
  rcases h with h | ⟨ds', e, h⟩
  · cases h <;> simp
  · subst e
    obtain ⟨a, vs, e, _⟩ := h
    subst e
    simp
theorem Opd.isN (h : Opd W H v d) : decide (v = .non) = isNoneD d := by
  have := h.non_iff
  cases d <;> simp [this, isNoneD]
/-- for deep comparisons -/
theorem Opd.dp {K : PySem.W.Frag} (w : WI W τ H) (h : Opd W H v d) : Dp K H v d ∧ PyData.canLay0 d = true := by
  rcases h with h | ⟨ds, e, h⟩
  · exact ⟨h.dp w.sub, h.lay⟩
  · subst e
    obtain ⟨a, vs, rfl, h1, _, r, _⟩ := h
    exact ⟨.lst (SqL.of h1) (r.dp w.sub), by simpa only [PyData.canLay0] using r.lay⟩
end
/-! ### slots -/
def InnerL (W : Wd) (H : Hp) : List V → List D → List Addr → Prop
  | [], [], [] => True
  | .ref a :: vs, .list ds :: es, b :: as => a = b ∧ (∃ ws, H a = some (.lst ws) ∧ W.B a = none ∧ ¬ W.tp a ∧ RpA W.B ws ds ∧ ds.length ≤ sizeLine) ∧ InnerL W H vs es as
  | _, _, _ => False
def Slot (W : Wd) (H : Hp) : Ty → Option D → Option V → List Addr → Prop
  | .u, _, _, F => F = []
  | .p, g, s, F => F = [] ∧ ∃ d v, g = some d ∧ s = some v ∧ Rp W.B v d
  | .pK, g, s, F => F = [] ∧ ∃ d v, g = some d ∧ s = some v ∧ RpD false W.B v d
  | .pT, g, s, F => F = [] ∧ ∃ d v, g = some d ∧ s = some v ∧ RpD true W.B v d
  | .st, g, s, F => F = [] ∧ g = some .none ∧ ∃ a c, s = some (.ref a) ∧ W.st = some (a, c)
  | .cl, g, s, F => F = [] ∧ g = some .none ∧ ∃ a c, s = some (.ref c) ∧ W.st = some (a, c)
  | .o, g, s, F => ∃ a vs ds, F = [a] ∧ g = some (.list ds) ∧ s = some (.ref a) ∧ H a = some (.lst vs) ∧ W.B a = none ∧ ¬ W.tp a ∧ RpA W.B vs ds ∧ ds.length ≤ sizeLine
  | .oo, g, s, F => ∃ a as vs ds, F = a :: as ∧ g = some (.list ds) ∧ s = some (.ref a) ∧ H a = some (.lst vs) ∧ W.B a = none ∧ ¬ W.tp a ∧ InnerL W H vs ds as ∧ ds.length ≤ sizeLine
  | .dK, g, s, F => ∃ a ks ds, F = [a] ∧ g = some (.dict ds) ∧ s = some (.ref a) ∧ H a = some (.dK ks) ∧ W.B a = none ∧ ¬ W.tp a ∧ RpK W.B ks ds
  | .dT, g, s, F => ∃ a ks ds, F = [a] ∧ g = some (.dict ds) ∧ s = some (.ref a) ∧ H a = some (.dT ks) ∧ W.B a = none ∧ ¬ W.tp a ∧ RpT W.B ks ds
theorem InnerL.mono {W W' : Wd} {H H' : Hp} (f : FrE W H W' H') : ∀ {vs : List V} {ds : List D} {as : List Addr}, InnerL W H vs ds as → InnerL W' H' vs ds as
  | [], [], [], _ => trivial
  | .ref a :: vs, .list ds :: es, b :: as, h => by
    obtain ⟨e, ⟨ws, h1, h2, n, r, l⟩, t⟩ := h
    refine ⟨e, ⟨ws, f.hp a _ h1 n, ?_, f.ntp h1 n, r.mono f.B, l⟩, InnerL.mono f t⟩
    cases q : W'.B a with
    | none => rfl
    | some o =>
      rcases f.nb a (by rw [q]; exact fun z => nomatch z) with z | z
      · exact absurd h2 z
      · rw [h1] at z; cases z
theorem FrE.ownB {W W' : Wd} {H H' : Hp} (f : FrE W H W' H') {a : Addr} {o : HO} (h1 : H a = some o) (h2 : W.B a = none) : W'.B a = none := by
  cases q : W'.B a with
  | none => rfl
  | some o =>
    rcases f.nb a (by rw [q]; exact fun z => nomatch z) with z | z
    · exact absurd h2 z
    · rw [h1] at z; cases z
theorem Slot.mono {W W' : Wd} {H H' : Hp} (f : FrE W H W' H') {t : Ty} {g : Option D} {s : Option V} {F : List Addr} (h : Slot W H t g s F) : Slot W' H' t g s F := by
  cases t with
  | u => exact h
  | p =>
    obtain ⟨e, d, v, h1, h2, r⟩ := h
    exact ⟨e, d, v, h1, h2, r.mono f.B⟩
  | pK =>
    obtain ⟨e, d, v, h1, h2, r⟩ := h
    exact ⟨e, d, v, h1, h2, r.mono f.B⟩
  | pT =>
    obtain ⟨e, d, v, h1, h2, r⟩ := h
    exact ⟨e, d, v, h1, h2, r.mono f.B⟩
  | st =>
    obtain ⟨e, e', a, c, h1, h2⟩ := h
    exact ⟨e, e', a, c, h1, f.st _ h2⟩
  | cl =>
    obtain ⟨e, e', a, c, h1, h2⟩ := h
    exact ⟨e, e', a, c, h1, f.st _ h2⟩
  | o =>
    obtain ⟨a, vs, ds, e, h1, h2, h3, h4, n, r, l⟩ := h
    exact ⟨a, vs, ds, e, h1, h2, f.hp a _ h3 n, f.ownB h3 h4, f.ntp h3 n, r.mono f.B, l⟩
  | oo =>
    obtain ⟨a, as, vs, ds, e, h1, h2, h3, h4, n, r, l⟩ := h
    exact ⟨a, as, vs, ds, e, h1, h2, f.hp a _ h3 n, f.ownB h3 h4, f.ntp h3 n, r.mono f, l⟩
  | dK =>
    obtain ⟨a, vs, ds, e, h1, h2, h3, h4, n, r⟩ := h
    exact ⟨a, vs, ds, e, h1, h2, f.hp a _ h3 n, f.ownB h3 h4, f.ntp h3 n, r.mono f.B⟩
  | dT =>
    obtain ⟨a, vs, ds, e, h1, h2, h3, h4, n, r⟩ := h
    exact ⟨a, vs, ds, e, h1, h2, f.hp a _ h3 n, f.ownB h3 h4, f.ntp h3 n, r.mono f.B⟩
def ty (Γ : List Ty) (i : Nat) : Ty := Γ.getD i .u
structure SL (W : Wd) (fp : Nat → List Addr) (Γ : List Ty) (γ : En) (σ : L2.St) (H : Hp) : Prop where
  slot : ∀ i, Slot W H (ty Γ i) (rd γ i) (σ.getD i none) (fp i)
  nd : ∀ i, (fp i).Nodup
  dj : ∀ i j, i ≠ j → ∀ a ∈ fp i, a ∉ fp j
  len : γ.length = σ.length
  lenG : Γ.length = σ.length
theorem SL.mono {W W' : Wd} {H H' : Hp} {fp : Nat → List Addr} {Γ : List Ty} {γ : En} {σ : L2.St} (f : FrE W H W' H') (h : SL W fp Γ γ σ H) : SL W' fp Γ γ σ H' :=
  ⟨fun i => (h.slot i).mono f, h.nd, h.dj, h.len, h.lenG⟩
theorem getD_some {α : Type} {l : List (Option α)} {i : Nat} {x : α} (h : l.getD i none = some x) : l[i]? = some (some x) := by
  rw [List.getD_eq_getElem?_getD] at h
  cases q : l[i]? with
  | none => rw [q] at h; cases h
  | some y =>
    rw [q] at h
    have h : y = some x := h
    rw [h]
end Ev
set_option Elab.async false
set_option linter.all false
set_option maxRecDepth 100000
set_option autoImplicit false
/-! Ev3: readings of expressions by runs; operators. -/
namespace Ev
open PySem PySem.Spec PyProof.Rows L2
theorem PEw {X : Cx} {e : Expr} {t t' : TE} (h : PE X e t) (w : ∀ σ H Q, t' σ H Q → t σ H Q) : PE X e t' := ⟨fun pins s σ H Q I h' => h.run pins s σ H Q I (w σ H Q h')⟩
theorem PTw {X : Cx} {e : Expr} {t t' : TT} (h : PT X e t) (w : ∀ σ H Q, t' σ H Q → t σ H Q) : PT X e t' := ⟨fun pins s σ H Q I h' => h.run pins s σ H Q I (w σ H Q h')⟩
theorem PWw {X : Cx} {e : Expr} {t t' : TT} (h : PW X e t) (w : ∀ σ H Q, t' σ H Q → t σ H Q) : PW X e t' := ⟨fun wh pins s σ H Q I h' => h.run wh pins s σ H Q I (w σ H Q h')⟩
theorem PAw {X : Cx} {es : List Expr} {t t' : TA} (h : PA X es t) (w : ∀ σ H Q, t' σ H Q → t σ H Q) : PA X es t' := ⟨fun pos pins s σ H Q I h' => h.run pos pins s σ H Q I (w σ H Q h')⟩
theorem PSw {X : Cx} {st : Stmt} {t t' : TS} (h : PS X st t) (w : ∀ D σ H, t' D σ H → t D σ H) : PS X st t' := ⟨fun pins s σ H D I h' => h.run pins s σ H D I (w D σ H h')⟩
theorem PSsw {X : Cx} {st : List Stmt} {t t' : TS} (h : PSs X st t) (w : ∀ D σ H, t' D σ H → t D σ H) : PSs X st t' := ⟨fun pins s σ H D I h' => h.run pins s σ H D I (w D σ H h')⟩
theorem PIw {X : Cx} {tg e : Expr} {t t' : TI} (h : PI X tg e t) (w : ∀ σ H R, t' σ H R → t σ H R) : PI X tg e t' := ⟨fun pins s σ H R I h' => h.run pins s σ H R I (w σ H R h')⟩
section
variable (cf : CF) (Γ : List Ty)
def tJ (ie : IE) (t : Ty) : TE := fun σ H Q => ∃ W fp γ τ d τ', WI W τ H ∧ SL W fp Γ γ σ H ∧ evalE cf ie γ τ = some (d, τ') ∧ ∀ v W' H', FrE W H W' H' → WI W' τ' H' → Jv W' t v d → Q v H'
def tB (ie : IE) : TE := fun σ H Q => ∃ W fp γ τ d τ', WI W τ H ∧ SL W fp Γ γ σ H ∧ evalE cf ie γ τ = some (d, τ') ∧ ∀ v W' H', FrE W H W' H' → WI W' τ' H' → Opd W' H' v d → Q v H'
def tD (t : Bool) (ie : IE) : TE := fun σ H Q => ∃ W fp γ τ d τ', WI W τ H ∧ SL W fp Γ γ σ H ∧ evalE cf ie γ τ = some (d, τ') ∧ ∀ v W' H', FrE W H W' H' → WI W' τ' H' → OpdD t W' H' v d → Q v H'
def tT (ie : IE) : TT := fun σ H Q => ∃ W fp γ τ b τ', WI W τ H ∧ SL W fp Γ γ σ H ∧ tst (evalE cf ie γ τ) = some (b, τ') ∧ ∀ W' H', FrE W H W' H' → WI W' τ' H' → Q b H'
def JvA (W : Wd) : List Ty → List V → List D → Prop
  | [], [], [] => True
  | t :: ts, v :: vs, d :: ds => Jv W t v d ∧ JvA W ts vs ds
  | _, _, _ => False
def tJs (ies : List IE) (ts : List Ty) : TA := fun σ H Q => ∃ W fp γ τ ds τ', WI W τ H ∧ SL W fp Γ γ σ H ∧ evalEs cf ies γ τ = some (ds, τ') ∧ ∀ vs W' H', FrE W H W' H' → WI W' τ' H' → JvA W' ts vs ds → Q vs H'
def tPs (ies : List IE) : TA := fun σ H Q => ∃ W fp γ τ ds τ', WI W τ H ∧ SL W fp Γ γ σ H ∧ evalEs cf ies γ τ = some (ds, τ') ∧ ∀ vs W' H', FrE W H W' H' → WI W' τ' H' → RpA W'.B vs ds → Q vs H'
/-- operands: data, or own lists -/
def OpA (W : Wd) (H : Hp) : List V → List D → Prop
  | [], [] => True
  | v :: vs, d :: ds => Opd W H v d ∧ OpA W H vs ds
  | _, _ => False
def tBs (ies : List IE) : TA := fun σ H Q => ∃ W fp γ τ ds τ', WI W τ H ∧ SL W fp Γ γ σ H ∧ evalEs cf ies γ τ = some (ds, τ') ∧ ∀ vs W' H', FrE W H W' H' → WI W' τ' H' → OpA W' H' vs ds → Q vs H'
end
theorem JvA.mono {W W' : Wd} {H H' : Hp} (f : FrE W H W' H') : ∀ {ts : List Ty} {vs : List V} {ds : List D}, JvA W ts vs ds → JvA W' ts vs ds
  | [], [], [], _ => trivial
  | _ :: _, _ :: _, _ :: _, h => ⟨h.1.mono f, JvA.mono f h.2⟩
theorem OpA.mono {W W' : Wd} {H H' : Hp} (f : FrE W H W' H') : ∀ {vs : List V} {ds : List D}, OpA W H vs ds → OpA W' H' vs ds
  | [], [], _ => trivial
  | _ :: _, _ :: _, h => ⟨h.1.mono f, OpA.mono f h.2⟩
section
variable {cf : CF} {Γ : List Ty} {X : Cx}
/-- two operands, the left one first -/
theorem seq2 {ia ib : IE} {W : Wd} {fp : Nat → List Addr} {γ : En} {τ τ1 τ2 : Tape} {x y : D} {σ : L2.St} {H : Hp} {Rr : V → V → Hp → Prop} (w : WI W τ H) (sl : SL W fp Γ γ σ H)
    (e1 : evalE cf ia γ τ = some (x, τ1)) (e2 : evalE cf ib γ τ1 = some (y, τ2)) (h : ∀ vx vy W2 H2, FrE W H W2 H2 → WI W2 τ2 H2 → Opd W2 H2 vx x → Opd W2 H2 vy y → Rr vx vy H2) :
    tB cf Γ ia σ H fun vx H1 => tB cf Γ ib σ H1 fun vy H2 => Rr vx vy H2 :=
  ⟨W, fp, γ, τ, x, τ1, w, sl, e1, fun vx W1 H1 f1 w1 o1 => ⟨W1, fp, γ, τ1, y, τ2, w1, sl.mono f1, e2, fun vy W2 H2 f2 w2 o2 => h vx vy W2 H2 (f1.trans f2) w2 (o1.mono f2) o2⟩⟩
/-! ### names, constants -/
theorem slot_at {W : Wd} {fp : Nat → List Addr} {γ : En} {σ : L2.St} {H : Hp} (sl : SL W fp Γ γ σ H) (i : Nat) {t : Ty} (ht : ty Γ i = t) : Slot W H t (rd γ i) (σ.getD i none) (fp i) := ht ▸ sl.slot i
theorem rd_ev {i : Nat} {γ : En} {τ τ' : Tape} {d : D} (e : evalE cf (.v i) γ τ = some (d, τ')) : rd γ i = some d ∧ τ' = τ := by
  simp only [evalE, Option.map_eq_some_iff, Prod.mk.injEq] at e
  obtain ⟨a, h, rfl, rfl⟩ := e
  exact ⟨h, rfl⟩
theorem je_v {i : Nat} {e : Expr} {t : Ty} (h : PE X e (tVar i)) (ht : ty Γ i = t) (hk : t = .p ∨ t = .pK ∨ t = .pT ∨ t = .st) : PE X e (tJ cf Γ (.v i) t) := by
  refine PEw h fun σ H Q ⟨W, fp, γ, τ, d, τ', w, sl, ev, q⟩ => ?_
  obtain ⟨hr, rfl⟩ := rd_ev ev
  have s := slot_at sl i ht
  rcases hk with rfl | rfl | rfl | rfl
  · obtain ⟨_, d', v, h1, h2, r⟩ := s
    rw [hr] at h1
    cases h1
    exact ⟨v, getD_some h2, q v W H (.refl W H) w r⟩
  · obtain ⟨_, d', v, h1, h2, r⟩ := s
    rw [hr] at h1
    cases h1
    exact ⟨v, getD_some h2, q v W H (.refl W H) w r⟩
  · obtain ⟨_, d', v, h1, h2, r⟩ := s
    rw [hr] at h1
    cases h1
    exact ⟨v, getD_some h2, q v W H (.refl W H) w r⟩
  · obtain ⟨_, h1, a, c, h2, r⟩ := s
    rw [hr] at h1
    cases h1
    exact ⟨_, getD_some h2, q _ W H (.refl W H) w ⟨rfl, a, c, rfl, r⟩⟩
theorem jb_v {i : Nat} {e : Expr} (h : PE X e (tVar i)) (ht : ty Γ i = .p ∨ ty Γ i = .o) : PE X e (tB cf Γ (.v i)) := by
  refine PEw h fun σ H Q ⟨W, fp, γ, τ, d, τ', w, sl, ev, q⟩ => ?_
  obtain ⟨hr, rfl⟩ := rd_ev ev
  rcases ht with ht | ht
  · have s := slot_at sl i ht
    obtain ⟨_, d', v, h1, h2, r⟩ := s
    rw [hr] at h1
    cases h1
    exact ⟨v, getD_some h2, q v W H (.refl W H) w (.inl r)⟩
  · have s := slot_at sl i ht
    obtain ⟨a, vs, ds, _, h1, h2, h3, h4, n, r, l⟩ := s
    rw [hr] at h1
    cases h1
    exact ⟨_, getD_some h2, q _ W H (.refl W H) w (.inr ⟨ds, rfl, a, vs, rfl, h3, n, r, l⟩)⟩
theorem jd_v {i : Nat} {e : Expr} {t : Bool} (h : PE X e (tVar i)) (ht : ty Γ i = (if t then .dT else .dK) ∨ ty Γ i = if t then .pT else .pK) : PE X e (tD cf Γ t (.v i)) := by
  refine PEw h fun σ H Q ⟨W, fp, γ, τ, d, τ', w, sl, ev, q⟩ => ?_
  obtain ⟨hr, rfl⟩ := rd_ev ev
  cases t with
  | true =>
    rcases ht with ht | ht
    · have s := slot_at sl i (t := .dT) ht
      obtain ⟨a, ks, ds, _, h1, h2, h3, h4, n, r⟩ := s
      rw [hr] at h1
      cases h1
      exact ⟨_, getD_some h2, q _ W H (.refl W H) w ⟨ds, rfl, a, ks, rfl, h3, n, r⟩⟩
    · have s := slot_at sl i (t := .pT) ht
      obtain ⟨_, d', v, h1, h2, r⟩ := s
      rw [hr] at h1
      cases h1
      exact ⟨v, getD_some h2, q v W H (.refl W H) w (RpD.opd w r)⟩
  | false =>
    rcases ht with ht | ht
    · have s := slot_at sl i (t := .dK) ht
      obtain ⟨a, ks, ds, _, h1, h2, h3, h4, n, r⟩ := s
      rw [hr] at h1
      cases h1
      exact ⟨_, getD_some h2, q _ W H (.refl W H) w ⟨ds, rfl, a, ks, rfl, h3, n, r⟩⟩
    · have s := slot_at sl i (t := .pK) ht
      obtain ⟨_, d', v, h1, h2, r⟩ := s
      rw [hr] at h1
      cases h1
      exact ⟨v, getD_some h2, q v W H (.refl W H) w (RpD.opd w r)⟩
theorem je_c {e : Expr} {v : V} {d : D} (h : PE X e (tC v)) (r : ∀ B, Rp B v d) : PE X e (tJ cf Γ (.c d) .p) := by
  refine PEw h fun σ H Q ⟨W, fp, γ, τ, d', τ', w, sl, ev, q⟩ => ?_
  simp only [evalE, Option.some.injEq, Prod.mk.injEq] at ev
  obtain ⟨rfl, rfl⟩ := ev
  exact q v W H (.refl W H) w (r _)
theorem jb_of {e : Expr} {ie : IE} (h : PE X e (tJ cf Γ ie .p)) : PE X e (tB cf Γ ie) :=
  PEw h fun σ H Q ⟨W, fp, γ, τ, d, τ', w, sl, ev, q⟩ => ⟨W, fp, γ, τ, d, τ', w, sl, ev, fun v W' H' f w' r => q v W' H' f w' (.inl r)⟩
theorem jd_of {e : Expr} {ie : IE} {t : Bool} (h : PE X e (tJ cf Γ ie (if t then .pT else .pK))) : PE X e (tD cf Γ t ie) :=
  PEw h fun σ H Q ⟨W, fp, γ, τ, d, τ', w, sl, ev, q⟩ => ⟨W, fp, γ, τ, d, τ', w, sl, ev, fun v W' H' f w' r => q v W' H' f w' (by
    cases t with
    | true => exact RpD.opd w' r
    | false => exact RpD.opd w' r)⟩
/-! ### lists of expressions -/
theorem evs_nil {γ : En} {τ : Tape} {p : List D × Tape} (e : evalEs cf [] γ τ = some p) : p = ([], τ) := by
  simp only [evalEs, Option.some.injEq] at e
  exact e.symm
theorem evs_cons {ie : IE} {ies : List IE} {γ : En} {τ τ' : Tape} {ds : List D} (e : evalEs cf (ie :: ies) γ τ = some (ds, τ')) :
    ∃ d τ1 ds', evalE cf ie γ τ = some (d, τ1) ∧ evalEs cf ies γ τ1 = some (ds', τ') ∧ ds = d :: ds' := by
  simp only [evalEs, Option.bind_eq_some_iff, Option.map_eq_some_iff, Prod.mk.injEq, Prod.exists] at e
  obtain ⟨d, τ1, h1, ds', τ2, h2, rfl, rfl⟩ := e
  exact ⟨d, τ1, ds', h1, h2, rfl⟩
theorem js_nil : PA X [] (tJs cf Γ [] []) := PAw pa_nil fun σ H Q ⟨W, fp, γ, τ, ds, τ', w, sl, ev, q⟩ => by
  cases evs_nil ev
  exact q [] W H (.refl W H) w trivial
theorem js_cons {e : Expr} {es : List Expr} {ie : IE} {ies : List IE} {t : Ty} {ts : List Ty} (h : PE X e (tJ cf Γ ie t)) (hr : PA X es (tJs cf Γ ies ts)) (hs : starEach (e :: es) X.env = (false, eval e X.env) :: starEach es X.env) :
    PA X (e :: es) (tJs cf Γ (ie :: ies) (t :: ts)) := PAw (pa_cons h hr hs) fun σ H Q ⟨W, fp, γ, τ, ds, τ', w, sl, ev, q⟩ => by
  obtain ⟨d, τ1, ds', e1, e2, rfl⟩ := evs_cons ev
  exact ⟨W, fp, γ, τ, d, τ1, w, sl, e1, fun v W1 H1 f1 w1 r1 => ⟨W1, fp, γ, τ1, ds', τ', w1, sl.mono f1, e2, fun vs W2 H2 f2 w2 r2 => q (v :: vs) W2 H2 (f1.trans f2) w2 ⟨r1.mono f2, r2⟩⟩⟩
theorem jps_nil : PA X [] (tPs cf Γ []) := PAw pa_nil fun σ H Q ⟨W, fp, γ, τ, ds, τ', w, sl, ev, q⟩ => by
  cases evs_nil ev
  exact q [] W H (.refl W H) w .nil
theorem jps_cons {e : Expr} {es : List Expr} {ie : IE} {ies : List IE} (h : PE X e (tJ cf Γ ie .p)) (hr : PA X es (tPs cf Γ ies)) (hs : starEach (e :: es) X.env = (false, eval e X.env) :: starEach es X.env) :
    PA X (e :: es) (tPs cf Γ (ie :: ies)) := PAw (pa_cons h hr hs) fun σ H Q ⟨W, fp, γ, τ, ds, τ', w, sl, ev, q⟩ => by
  obtain ⟨d, τ1, ds', e1, e2, rfl⟩ := evs_cons ev
  exact ⟨W, fp, γ, τ, d, τ1, w, sl, e1, fun v W1 H1 f1 w1 r1 => ⟨W1, fp, γ, τ1, ds', τ', w1, sl.mono f1, e2, fun vs W2 H2 f2 w2 r2 => q (v :: vs) W2 H2 (f1.trans f2) w2 (.cons (Rp.mono f2.B r1) r2)⟩⟩
theorem jbs_nil : PA X [] (tBs cf Γ []) := PAw pa_nil fun σ H Q ⟨W, fp, γ, τ, ds, τ', w, sl, ev, q⟩ => by
  cases evs_nil ev
  exact q [] W H (.refl W H) w trivial
theorem jbs_cons {e : Expr} {es : List Expr} {ie : IE} {ies : List IE} (h : PE X e (tB cf Γ ie)) (hr : PA X es (tBs cf Γ ies)) (hs : starEach (e :: es) X.env = (false, eval e X.env) :: starEach es X.env) :
    PA X (e :: es) (tBs cf Γ (ie :: ies)) := PAw (pa_cons h hr hs) fun σ H Q ⟨W, fp, γ, τ, ds, τ', w, sl, ev, q⟩ => by
  obtain ⟨d, τ1, ds', e1, e2, rfl⟩ := evs_cons ev
  exact ⟨W, fp, γ, τ, d, τ1, w, sl, e1, fun v W1 H1 f1 w1 r1 => ⟨W1, fp, γ, τ1, ds', τ', w1, sl.mono f1, e2, fun vs W2 H2 f2 w2 r2 => q (v :: vs) W2 H2 (f1.trans f2) w2 ⟨r1.mono f2, r2⟩⟩⟩
theorem evs_len {ies : List IE} {γ : En} : ∀ {τ τ' : Tape} {ds : List D}, evalEs cf ies γ τ = some (ds, τ') → ds.length = ies.length := by
  induction ies with
  | nil => intro τ τ' ds e; cases evs_nil e; rfl
  | cons a r ih =>
    intro τ τ' ds e
    obtain ⟨d, τ1, ds', e1, e2, rfl⟩ := evs_cons e
    rw [List.length_cons, List.length_cons, ih e2]
theorem je_tup {es : List Expr} {ies : List IE} {pos : Pos} {k : Nat} (h : PA X es (tPs cf Γ ies)) (hl : ies.length ≤ sizeLine) : PE X (.Tuple es k pos) (tJ cf Γ (.tup ies) .p) :=
  PEw (pe_tup h) fun σ H Q ⟨W, fp, γ, τ, d, τ', w, sl, ev, q⟩ => by
    simp only [evalE, Option.map_eq_some_iff, Prod.mk.injEq, Prod.exists] at ev
    obtain ⟨ds, _, e1, rfl, rfl⟩ := ev
    refine ⟨W, fp, γ, τ, ds, _, w, sl, e1, fun vs W1 H1 f1 w1 r1 => ?_⟩
    have hz : ds.length ≤ sizeLine := by rw [evs_len e1]; exact hl
    refine ⟨by rw [r1.length]; exact hz, fun p hp => ?_⟩
    obtain ⟨f2, w2⟩ := new_obj w1 (.tup vs) hp
    exact q _ _ _ (f1.trans f2) w2 (.tup upd_same (r1.mono f2.B) hz)
theorem je_lst {es : List Expr} {ies : List IE} {pos : Pos} (h : PA X es (tPs cf Γ ies)) (hl : ies.length ≤ sizeLine) : PE X (.List es pos) (tJ cf Γ (.lst ies) .p) :=
  PEw (pe_lst h) fun σ H Q ⟨W, fp, γ, τ, d, τ', w, sl, ev, q⟩ => by
    simp only [evalE, Option.map_eq_some_iff, Prod.mk.injEq, Prod.exists] at ev
    obtain ⟨ds, _, e1, rfl, rfl⟩ := ev
    refine ⟨W, fp, γ, τ, ds, _, w, sl, e1, fun vs W1 H1 f1 w1 r1 => ?_⟩
    have hz : ds.length ≤ sizeLine := by rw [evs_len e1]; exact hl
    refine ⟨by rw [r1.length]; exact hz, fun p hp => ?_⟩
    obtain ⟨f2, w2⟩ := new_obj w1 (.lst vs) hp
    exact q _ _ _ (f1.trans f2) w2 (.lst upd_same (r1.mono f2.B) hz)
/-! ### operators of two operands -/
/-- a rule by values: f tells the value -/
def rOp2 (f : D → D → Option D) : R2 := fun x y H Q => ∃ W τ dx dy d, WI W τ H ∧ Opd W H x dx ∧ Opd W H y dy ∧ f dx dy = some d ∧ ∀ v W' H', FrE W H W' H' → WI W' τ H' → Rp W'.B v d → Q v H'
theorem w_op2 {f : D → D → Option D} {ia ib ie : IE} {σ : L2.St} {H : Hp} {Q : VK} (he : ∀ γ τ d τ', evalE cf ie γ τ = some (d, τ') → ∃ x τ1 y, evalE cf ia γ τ = some (x, τ1) ∧ evalE cf ib γ τ1 = some (y, τ') ∧ f x y = some d)
    (h : tJ cf Γ ie .p σ H Q) : tOp (rOp2 f) (tB cf Γ ia) (tB cf Γ ib) σ H Q := by
  obtain ⟨W, fp, γ, τ, d, τ', w, sl, ev, q⟩ := h
  obtain ⟨x, τ1, y, e1, e2, e3⟩ := he γ τ d τ' ev
  exact seq2 (Rr := fun vx vy H2 => rOp2 f vx vy H2 Q) w sl e1 e2 fun vx vy W2 H2 f2 w2 o1 o2 => ⟨W2, τ', x, y, d, w2, o1, o2, e3, fun v W3 H3 f3 w3 r => q v W3 H3 (f2.trans f3) w3 r⟩
theorem ev_bin {o : BOp} {a b : IE} {γ : En} {τ τ' : Tape} {d : D} (e : evalE cf (.bin o a b) γ τ = some (d, τ')) : ∃ x τ1 y, evalE cf a γ τ = some (x, τ1) ∧ evalE cf b γ τ1 = some (y, τ') ∧ opBin o x y = some d := by
  simp only [evalE, Option.bind_eq_some_iff, Option.map_eq_some_iff, Prod.mk.injEq, Prod.exists] at e
  obtain ⟨x, τ1, h1, y, τ2, h2, d', h3, rfl, rfl⟩ := e
  exact ⟨x, τ1, y, h1, h2, h3⟩
theorem ev_cmp {o : COp} {a b : IE} {γ : En} {τ τ' : Tape} {d : D} (e : evalE cf (.cmp o a b) γ τ = some (d, τ')) : ∃ x τ1 y, evalE cf a γ τ = some (x, τ1) ∧ evalE cf b γ τ1 = some (y, τ') ∧ (opCmp o x y).map PyData.bool = some d := by
  simp only [evalE, Option.bind_eq_some_iff, Option.map_eq_some_iff, Prod.mk.injEq, Prod.exists] at e
  obtain ⟨x, τ1, h1, y, τ2, h2, d', h3, rfl, rfl⟩ := e
  exact ⟨x, τ1, y, h1, h2, by rw [h3]; rfl⟩
def opA : BOp → Operator
  | .add => .Add | .sub => .Sub | .mul => .Mult | .mod => .Mod | .fdiv => .FloorDiv | .pow => .Pow
def copA : COp → CmpOp
  | .eq => .Eq | .ne => .NotEq | .lt => .Lt | .le => .LtE | .gt => .Gt | .ge => .GtE | .isin => .In | .notin => .NotIn
theorem or_add : OpR X (binaryOp .Add) (rOp2 (opBin .add)) := by
  intro pins s σ H x y v u Q I rx ry h
  obtain ⟨W, τ, dx, dy, d, w, ox, oy, e, q⟩ := h
  have e : opAdd dx dy = some d := e
  unfold opAdd at e
  split at e <;> first | cases e | skip
  · cases ox.int
    cases oy.int
    exact op_add pins s σ H _ _ v u Q I rx ry ⟨_, _, rfl, rfl, q _ W H (.refl W H) w (.int _)⟩
  · rename_i xs ys _
    split at e <;> first | cases e | skip
    rename_i hz
    obtain ⟨a, vs, rfl, h1, n1, r1, l1⟩ := ox.list w
    obtain ⟨b, ws, rfl, h2, n2, r2, l2⟩ := oy.list w
    refine op_cat pins s σ H _ _ v u Q I rx ry ⟨a, b, vs, ws, rfl, rfl, h1, h2, by rw [r1.length, r2.length]; exact hz, fun p hp => ?_⟩
    obtain ⟨f, w'⟩ := new_obj w (.lst (vs ++ ws)) hp
    exact q _ _ _ f w' (.lst upd_same ((r1.append r2).mono f.B) (by rw [List.length_append]; exact hz))
  · rename_i xs ys _
    split at e <;> first | cases e | skip
    rename_i hz
    obtain ⟨a, vs, rfl, h1, r1, l1⟩ := ox.tup
    obtain ⟨b, ws, rfl, h2, r2, l2⟩ := oy.tup
    refine op_catA pins s σ H _ _ v u Q I rx ry ⟨a, b, vs, ws, rfl, rfl, SqT.of (w.sub _ _ h1), SqT.of (w.sub _ _ h2), by rw [r1.length, r2.length]; exact hz, fun e0 => ?_, fun _ e0 => ?_, fun _ _ p hp => ?_⟩
    · subst e0
      cases r1
      exact q _ W H (.refl W H) w (.tup h2 r2 l2)
    · subst e0
      cases r2
      refine q _ W H (.refl W H) w (.tup h1 (by rw [List.append_nil]; exact r1) (by rw [List.append_nil]; exact l1))
    · obtain ⟨f, w'⟩ := new_obj w (.tup (vs ++ ws)) hp
      exact q _ _ _ f w' (.tup upd_same ((r1.append r2).mono f.B) (by rw [List.length_append]; exact hz))
theorem or_sub : OpR X (binaryOp .Sub) (rOp2 (opBin .sub)) := by
  intro pins s σ H x y v u Q I rx ry h
  obtain ⟨W, τ, dx, dy, d, w, ox, oy, e, q⟩ := h
  have e : opSub dx dy = some d := e
  unfold opSub at e
  split at e <;> first | cases e | skip
  cases ox.int
  cases oy.int
  exact op_sub pins s σ H _ _ v u Q I rx ry ⟨_, _, rfl, rfl, q _ W H (.refl W H) w (.int _)⟩
theorem or_mod : OpR X (binaryOp .Mod) (rOp2 (opBin .mod)) := by
  intro pins s σ H x y v u Q I rx ry h
  obtain ⟨W, τ, dx, dy, d, w, ox, oy, e, q⟩ := h
  have e : opMod dx dy = some d := e
  unfold opMod at e
  split at e <;> first | cases e | skip
  split at e <;> first | cases e | skip
  rename_i hz
  cases ox.int
  cases oy.int
  exact op_mod pins s σ H _ _ v u Q I rx ry ⟨_, _, rfl, rfl, hz, q _ W H (.refl W H) w (.int _)⟩
theorem or_fdiv : OpR X (binaryOp .FloorDiv) (rOp2 (opBin .fdiv)) := by
  intro pins s σ H x y v u Q I rx ry h
  obtain ⟨W, τ, dx, dy, d, w, ox, oy, e, q⟩ := h
  have e : opDiv dx dy = some d := e
  unfold opDiv at e
  split at e <;> first | cases e | skip
  split at e <;> first | cases e | skip
  rename_i hz
  cases ox.int
  cases oy.int
  exact op_fdiv pins s σ H _ _ v u Q I rx ry ⟨_, _, rfl, rfl, ⟨hz.1, by have := hz.2; omega⟩, q _ W H (.refl W H) w (.int _)⟩
theorem or_pow : OpR X (binaryOp .Pow) (rOp2 (opBin .pow)) := by
  intro pins s σ H x y v u Q I rx ry h
  obtain ⟨W, τ, dx, dy, d, w, ox, oy, e, q⟩ := h
  have e : opPow dx dy = some d := e
  unfold opPow at e
  split at e <;> first | cases e | skip
  split at e <;> first | cases e | skip
  rename_i hz
  cases ox.int
  cases oy.int
  exact op_pow pins s σ H _ _ v u Q I rx ry ⟨_, _, rfl, rfl, ⟨hz.1, by have := hz.2.1; omega, hz.2.2⟩, q _ W H (.refl W H) w (.int _)⟩
/-! ### comparisons -/
abbrev fCmp (o : COp) : D → D → Option D := fun x y => (opCmp o x y).map PyData.bool
theorem or_eq (hu : X.A.units + 150 < cLine) : OpR X (compareOp .Eq) (rOp2 (fCmp .eq)) := by
  intro pins s σ H x y v u Q I rx ry h
  obtain ⟨W, τ, dx, dy, d, w, ox, oy, e, q⟩ := h
  have hx := ox.dp (K := X.K) w
  have hy := oy.dp (K := X.K) w
  simp only [fCmp, opCmp, cEq] at e
  split at e <;> first | cases e | skip
  rename_i hs
  obtain ⟨as, r1⟩ := Dp.reads I dx x v hx.1 rx
  obtain ⟨bs, r2⟩ := Dp.reads I dy y u hy.1 ry
  refine SeqAt.compareEq_reads r1 r2 hx.2 hy.2 ?_ ⟨.bl _, H, I, rfl, q _ W H (.refl W H) w (.bl _)⟩
  have h1 : min dx.depth dy.depth ≤ dx.depth := Nat.min_le_left _ _
  have h2 : min dx.depth dy.depth ≤ dy.depth := Nat.min_le_right _ _
  simp only [shallow, Bool.or_eq_true, decide_eq_true_eq] at hs
  omega
theorem or_ne (hu : X.A.units + 150 < cLine) : OpR X (compareOp .NotEq) (rOp2 (fCmp .ne)) := by
  intro pins s σ H x y v u Q I rx ry h
  obtain ⟨W, τ, dx, dy, d, w, ox, oy, e, q⟩ := h
  have hx := ox.dp (K := X.K) w
  have hy := oy.dp (K := X.K) w
  simp only [fCmp, opCmp, cEq] at e
  split at e <;> first | cases e | skip
  rename_i hs
  obtain ⟨as, r1⟩ := Dp.reads I dx x v hx.1 rx
  obtain ⟨bs, r2⟩ := Dp.reads I dy y u hy.1 ry
  refine SeqAt.compareNe_reads r1 r2 hx.2 hy.2 ?_ ⟨.bl _, H, I, rfl, q _ W H (.refl W H) w (.bl _)⟩
  have h1 : min dx.depth dy.depth ≤ dx.depth := Nat.min_le_left _ _
  have h2 : min dx.depth dy.depth ≤ dy.depth := Nat.min_le_right _ _
  simp only [shallow, Bool.or_eq_true, decide_eq_true_eq] at hs
  omega
theorem or_ints {o : COp} {p : Int → Int → Bool} {g : Value → Value → Sem Value} (ho : OpR X g (rI0 fun i j => .bl (p i j)))
    (hp : ∀ x y b, opCmp o x y = some b → ∃ i j, x = .int i ∧ y = .int j ∧ b = p i j) : OpR X g (rOp2 (fCmp o)) := by
  intro pins s σ H x y v u Q I rx ry h
  obtain ⟨W, τ, dx, dy, d, w, ox, oy, e, q⟩ := h
  obtain ⟨b, e1, e2⟩ := Option.map_eq_some_iff.mp e
  obtain ⟨i, j, rfl, rfl, rfl⟩ := hp dx dy b e1
  subst e2
  cases ox.int
  cases oy.int
  exact ho pins s σ H _ _ v u Q I rx ry ⟨_, _, rfl, rfl, q _ W H (.refl W H) w (.bl _)⟩
theorem cInt_some {p : Int → Int → Bool} {x y : D} {b : Bool} (e : cInt p x y = some b) : ∃ i j, x = .int i ∧ y = .int j ∧ b = p i j := by
  unfold cInt at e
  split at e <;> first | cases e | skip
  exact ⟨_, _, rfl, rfl, rfl⟩
theorem or_lt : OpR X (compareOp .Lt) (rOp2 (fCmp .lt)) := or_ints op_lt fun x y b e => cInt_some e
theorem or_le : OpR X (compareOp .LtE) (rOp2 (fCmp .le)) := or_ints op_le fun x y b e => cInt_some e
theorem or_gt : OpR X (compareOp .Gt) (rOp2 (fCmp .gt)) := or_ints op_gt fun x y b e => cInt_some e
theorem or_ge : OpR X (compareOp .GtE) (rOp2 (fCmp .ge)) := or_ints op_ge fun x y b e => cInt_some e
theorem lay_list {ds : List D} (h : PyData.canLay0 (.list ds) = true) : PyData.canLayAll0 ds = true := by simpa only [PyData.canLay0] using h
theorem lay_tup {ds : List D} (h : PyData.canLay0 (.tuple ds) = true) : PyData.canLayAll0 ds = true := by simpa only [PyData.canLay0] using h
theorem or_in (hu : X.A.units + 150 < cLine) : OpR X (compareOp .In) (rOp2 (fCmp .isin)) := by
  intro pins s σ H x y v u Q I rx ry h
  obtain ⟨W, τ, dx, dy, d, w, ox, oy, e, q⟩ := h
  have hx := ox.dp (K := X.K) w
  have hy := oy.dp (K := X.K) w
  obtain ⟨as, r1⟩ := Dp.reads I dx x v hx.1 rx
  obtain ⟨bs, r2⟩ := Dp.reads I dy y u hy.1 ry
  simp only [fCmp, opCmp, Option.map_map] at e
  obtain ⟨b, e1, e2⟩ := Option.map_eq_some_iff.mp e
  subst e2
  unfold cIn at e1
  obtain ⟨ys, e3, e4⟩ := Option.bind_eq_some_iff.mp e1
  split at e4 <;> first | cases e4 | skip
  rename_i hs
  have h2 : min (PyData.depthAll ys) dx.depth ≤ dx.depth := Nat.min_le_right _ _
  unfold seqOf at e3
  split at e3 <;> first | cases e3 | skip
  · exact SeqAt.in_list_reads r2 r1 (lay_list hy.2) hx.2 (by omega) ⟨.bl _, H, I, rfl, q _ W H (.refl W H) w (.bl _)⟩
  · exact SeqAt.in_tuple_reads r2 r1 (lay_tup hy.2) hx.2 (by omega) ⟨.bl _, H, I, rfl, q _ W H (.refl W H) w (.bl _)⟩
theorem or_notin (hu : X.A.units + 150 < cLine) : OpR X (compareOp .NotIn) (rOp2 (fCmp .notin)) := by
  intro pins s σ H x y v u Q I rx ry h
  obtain ⟨W, τ, dx, dy, d, w, ox, oy, e, q⟩ := h
  have hx := ox.dp (K := X.K) w
  have hy := oy.dp (K := X.K) w
  obtain ⟨as, r1⟩ := Dp.reads I dx x v hx.1 rx
  obtain ⟨bs, r2⟩ := Dp.reads I dy y u hy.1 ry
  simp only [fCmp, opCmp, Option.map_map] at e
  obtain ⟨b, e1, e2⟩ := Option.map_eq_some_iff.mp e
  subst e2
  unfold cIn at e1
  obtain ⟨ys, e3, e4⟩ := Option.bind_eq_some_iff.mp e1
  split at e4 <;> first | cases e4 | skip
  rename_i hs
  have h2 : min (PyData.depthAll ys) dx.depth ≤ dx.depth := Nat.min_le_right _ _
  unfold seqOf at e3
  split at e3 <;> first | cases e3 | skip
  · exact SeqAt.notIn_list_reads r2 r1 (lay_list hy.2) hx.2 (by omega) ⟨.bl _, H, I, rfl, q _ W H (.refl W H) w (.bl _)⟩
  · exact SeqAt.notIn_tuple_reads r2 r1 (lay_tup hy.2) hx.2 (by omega) ⟨.bl _, H, I, rfl, q _ W H (.refl W H) w (.bl _)⟩
theorem or_cmp (hu : X.A.units + 150 < cLine) : ∀ o : COp, OpR X (compareOp (copA o)) (rOp2 (fCmp o))
  | .eq => or_eq hu | .ne => or_ne hu | .lt => or_lt | .le => or_le | .gt => or_gt | .ge => or_ge | .isin => or_in hu | .notin => or_notin hu
end
end Ev
set_option Elab.async false
set_option linter.all false
set_option maxRecDepth 100000
set_option maxHeartbeats 4000000
set_option autoImplicit false
/-! EvMul: tuple * int. -/
namespace Ev
open PySem PySem.Spec PyProof.Rows L2
theorem tup_rep1 (l : Addr) (items : Array Value) (n : Nat) (dd : Option Addr) (sl : Array (Option Value)) (x : Int) (u : Tok) (c0 : (decide (x < -(2 ^ 63)) || decide (x ≥ 2 ^ 63)) = false) (c1 : (items.isEmpty || x == 1) = true) :
    Meets (Builtin.«tuple.__mul__» ⟨[.ref l, .int x u], []⟩) (fun _ R s => s.heap.get? l = some { cls := .type "tuple", dict := dd, data := .seq items n, slots := sl } ∧ R (.ok (.ret (.ref l))) s) :=
  .of_wp fun prog w A R s h => by
    obtain ⟨hp, g, d, tk, os⟩ := s
    obtain ⟨hl, h⟩ := h
    have f1 := AutoSeq1.idx_int
    wp_walk using wpAny_loadPart' hl
    repeat (first
      | (refine wpAny_ite_false (decide_eq_false (by rw [c0]; exact Bool.false_ne_true)) ?_; wp_walk using wpAny_loadPart' hl)
      | (refine wpAny_ite_true (decide_eq_true (by rw [c1])) ?_; wp_walk using wpAny_loadPart' hl))
    exact ⟨_, rfl, h⟩
theorem tup_rep0 (l : Addr) (items : Array Value) (n : Nat) (dd : Option Addr) (sl : Array (Option Value)) (x : Int) (u : Tok) (c0 : (decide (x < -(2 ^ 63)) || decide (x ≥ 2 ^ 63)) = false) (c1 : (items.isEmpty || x == 1) = false) (c2 : (decide (x ≤ 0) || items.isEmpty) = true) :
    Meets (Builtin.«tuple.__mul__» ⟨[.ref l, .int x u], []⟩) (fun _ R s => s.heap.get? l = some { cls := .type "tuple", dict := dd, data := .seq items n, slots := sl } ∧
      R (.ok (.ret (Value.ref s.heap.objs.size))) { s with heap := s.heap.push { cls := Value.type "tuple", data := Data.seq #[] }, toks := s.toks }) :=
  .of_wp fun prog w A R s h => by
    obtain ⟨hp, g, d, tk, os⟩ := s
    obtain ⟨hl, h⟩ := h
    have f1 := AutoSeq1.idx_int
    wp_walk using wpAny_loadPart' hl
    repeat (first
      | (refine wpAny_ite_false (decide_eq_false (by rw [c0]; exact Bool.false_ne_true)) ?_; wp_walk using wpAny_loadPart' hl)
      | (refine wpAny_ite_false (decide_eq_false (by rw [c1]; exact Bool.false_ne_true)) ?_; wp_walk using wpAny_loadPart' hl)
      | (refine wpAny_ite_true (decide_eq_true (by rw [c2])) ?_; wp_walk using wpAny_loadPart' hl))
    exact ⟨_, rfl, h⟩
section
variable {X : Cx}
theorem op_repS {pins : List (Addr × Obj)} {s : Shared} {σ : L2.St} {H : Hp} {l : Addr} {k : Int} {xs : List V} {u : Value} {Q : VK} (I : Inv X pins σ H s) (ry : RelV (.int k) u) (hT : SqT X.K H l xs) (h1 : -(2 ^ 63) ≤ k) (h2 : k < 2 ^ 63)
    (q1 : xs = [] ∨ k = 1 → Q (.ref l) H) (q0 : ¬ (xs = [] ∨ k = 1) → k ≤ 0 → ∀ p, H p = none → Q (.ref p) (upd H p (.tup []))) (hk : (xs = [] ∨ k = 1) ∨ k ≤ 0) :
    wpAny (model X.prog X.w) X.A (binaryOp .Mult (.ref l) u) (EP X pins σ Q) X.xe s := by
  obtain ⟨t, rfl⟩ := ry
  obtain ⟨its, r, ⟨⟨cls, dd, data, sl⟩, ho, hc, n, hd⟩, hs⟩ := I.tuple hT
  simp only at hc hd
  subst hc hd
  have hle : its.length = xs.length := r.length.symm
  have he : its.toArray.isEmpty = xs.isEmpty := by
    cases its with
    | nil =>
      cases xs with
      | nil => rfl
      | cons a b => cases hle
    | cons a b =>
      cases xs with
      | nil => cases hle
      | cons a b => rfl
  have c0 : (decide (k < -(2 ^ 63)) || decide (k ≥ 2 ^ 63)) = false := by
    rw [decide_eq_false (by omega), decide_eq_false (by omega)] <;> rfl
  by_cases c : xs = [] ∨ k = 1
  · have c1 : (its.toArray.isEmpty || k == 1) = true := by
      rw [he]
      rcases c with rfl | rfl
      · rfl
      · simp
    exact wpAny_binaryOp_repeat_ref (T := "tuple") (U := "int") (by decide) ⟨_, ho, rfl⟩ (fun s' => typeIs_int s' k t) noFill_tuple_mul F.fills_int_mul F.slot_int_rmul repeat_tuple F.slot_int_index.lookup
      (call_meets F.slot_int_rmul (typeIs_int s k t) F.entry_int_rmul (F.args_int_rmul_2 _ _) (int_rmul_tuple k t l its.toArray n dd sl)
        ⟨ho, rfl, ⟨_, ho, rfl⟩, call_meets F.slot_tuple_mul ⟨_, ho, rfl⟩ F.entry_tuple_mul (F.args_tuple_mul_2 _ _) (tup_rep1 l its.toArray n dd sl k t c0 c1) ⟨ho, ⟨.ref l, H, I, rfl, q1 c⟩⟩⟩)
  · have hx : xs.isEmpty = false := by
      cases xs with
      | nil => exact absurd (.inl rfl) c
      | cons a b => rfl
    have k1 : (k == 1) = false := beq_eq_false_iff_ne.mpr fun e => c (.inr e)
    have c1 : (its.toArray.isEmpty || k == 1) = false := by rw [he, hx, k1]; rfl
    have k0 : k ≤ 0 := hk.resolve_left c
    have c2 : (decide (k ≤ 0) || its.toArray.isEmpty) = true := by rw [decide_eq_true k0, Bool.true_or]
    refine wpAny_binaryOp_repeat_ref (T := "tuple") (U := "int") (by decide) ⟨_, ho, rfl⟩ (fun s' => typeIs_int s' k t) noFill_tuple_mul F.fills_int_mul F.slot_int_rmul repeat_tuple F.slot_int_index.lookup
      (call_meets F.slot_int_rmul (typeIs_int s k t) F.entry_int_rmul (F.args_int_rmul_2 _ _) (int_rmul_tuple k t l its.toArray n dd sl)
        ⟨ho, rfl, ⟨_, ho, rfl⟩, call_meets F.slot_tuple_mul ⟨_, ho, rfl⟩ F.entry_tuple_mul (F.args_tuple_mul_2 _ _) (tup_rep0 l its.toArray n dd sl k t c0 c1 c2) ⟨ho, ?_⟩⟩)
    refine ⟨.ref s.heap.objs.size, _, I.laid (t' := s.toks) (o := .tup []) (fun b ob q => Heap.get?_push_of_some _ q) (Nat.le_refl _) ?_, rfl, q0 c k0 _ (I.hok.fresh (Nat.le_refl _))⟩
    exact ⟨Nat.zero_le _, [], .nil, IsTup.new _ _⟩
theorem or_mul : OpR X (binaryOp .Mult) (rOp2 (opBin .mul)) := by
  intro pins s σ H x y v u Q I rx ry h
  obtain ⟨W, τ, dx, dy, d, w, ox, oy, e, q⟩ := h
  have e : opMul dx dy = some d := e
  unfold opMul at e
  split at e <;> first | cases e | skip
  · unfold opMulI at e
    split at e <;> first | cases e | skip
    rename_i hz
    cases ox.int
    cases oy.int
    exact op_mul pins s σ H _ _ v u Q I rx ry ⟨_, _, rfl, rfl, hz.elim (fun h => .inl ⟨by omega, by omega⟩) (fun h => .inr ⟨by omega, by omega⟩), q _ W H (.refl W H) w (.int _)⟩
  · rename_i xs j _
    split at e <;> first | cases e | skip
    rename_i hz
    obtain ⟨a, vs, rfl, h1, r1, l1⟩ := ox.tup
    cases oy.int
    have hl := r1.length
    by_cases c : (vs = [] ∨ j = 1) ∨ j ≤ 0
    · cases rx
      refine op_repS I ry (SqT.of (w.sub _ _ h1)) (by have := hz.2.1; omega) (by have := hz.2.1; omega) (fun c1 => ?_) (fun c1 c2 p hp => ?_) c
      · refine q _ W H (.refl W H) w ?_
        have e1 : (List.replicate j.toNat xs).flatten = xs := by
          rcases c1 with rfl | rfl
          · cases r1
            generalize j.toNat = m
            induction m with
            | zero => rfl
            | succ m ih => rw [List.replicate_succ, List.flatten_cons, ih]; rfl
          · simp
        rw [e1]
        exact .tup h1 r1 l1
      · obtain ⟨f, w'⟩ := new_obj w (.tup []) hp
        have e1 : (List.replicate j.toNat xs).flatten = [] := by
          have : j.toNat = 0 := by omega
          rw [this]
          rfl
        rw [e1] at q
        exact q _ _ _ f w' (.tup upd_same .nil (Nat.zero_le _))
    · refine op_repT pins s σ H _ _ v u Q I rx ry ⟨a, j, vs, rfl, rfl, SqT.of (w.sub _ _ h1), fun z => c (.inl (.inl z)), by omega, by have := hz.2.1; omega, by rw [hl]; exact hz.2.2, fun p hp => ?_⟩
      obtain ⟨f, w'⟩ := new_obj w (.tup (List.replicate j.toNat vs).flatten) hp
      exact q _ _ _ f w' (.tup upd_same ((r1.rep j.toNat).mono f.B) hz.1)
theorem or_bin : ∀ o : BOp, OpR X (binaryOp (opA o)) (rOp2 (opBin o))
  | .add => or_add | .sub => or_sub | .mul => or_mul | .mod => or_mod | .fdiv => or_fdiv | .pow => or_pow
end
end Ev
set_option Elab.async false
set_option linter.all false
set_option maxRecDepth 100000
set_option autoImplicit false
/-! Ev4: more expressions: tests, choices, items, slices, built-ins. -/
namespace Ev
open PySem PySem.Spec PyProof.Rows L2
section
variable {cf : CF} {Γ : List Ty} {X : Cx}
theorem je_bin {o : BOp} {a b : Expr} {ia ib : IE} {pos : Pos} (ha : PE X a (tB cf Γ ia)) (hb : PE X b (tB cf Γ ib)) : PE X (.BinOp a (opA o) b pos) (tJ cf Γ (.bin o ia ib) .p) :=
  PEw (pe_op (or_bin o) ha hb) fun σ H Q h => w_op2 (fun _ _ _ _ e => ev_bin e) h
theorem behind_of {op : CmpOp} {b : Expr} (h : ∀ es k p, b ≠ .Set es k p) : behindInMarks op b = false := by
  unfold behindInMarks
  split
  · rename_i es k p
    exact absurd rfl (h es k p)
  · rfl
theorem je_cmp (hu : X.A.units + 150 < cLine) {o : COp} {a b : Expr} {ia ib : IE} {pos : Pos} (ha : PE X a (tB cf Γ ia)) (hb : PE X b (tB cf Γ ib)) (hm : ∀ es k p, b ≠ .Set es k p) : PE X (.Compare a [copA o] [b] pos) (tJ cf Γ (.cmp o ia ib) .p) :=
  PEw (pe_cmpR (or_cmp hu o) ha hb (behind_of hm)) fun σ H Q h => w_op2 (fun _ _ _ _ e => ev_cmp e) h
theorem jt_cmp (hu : X.A.units + 150 < cLine) {o : COp} {a b : Expr} {ia ib : IE} {pos : Pos} (ha : PE X a (tB cf Γ ia)) (hb : PE X b (tB cf Γ ib)) (hm : ∀ es k p, b ≠ .Set es k p) : PT X (.Compare a [copA o] [b] pos) (tT cf Γ (.cmp o ia ib)) :=
  PTw (pt_cmpR (or_cmp hu o) ha hb (behind_of hm)) fun σ H Q ⟨W, fp, γ, τ, k, τ', w, sl, ev, q⟩ => by
    simp only [tst, Option.bind_eq_some_iff, Option.map_eq_some_iff, Prod.mk.injEq, Prod.exists] at ev
    obtain ⟨d, τ1, e1, k', e2, rfl, rfl⟩ := ev
    refine w_op2 (cf := cf) (Γ := Γ) (ie := .cmp o ia ib) (fun _ _ _ _ e => ev_cmp e) ⟨W, fp, γ, τ, d, τ1, w, sl, e1, fun v W1 H1 f1 w1 r1 => ?_⟩
    obtain ⟨_, _, _, _, _, e4⟩ := ev_cmp e1
    obtain ⟨b, _, e5⟩ := Option.map_eq_some_iff.mp e4
    subst e5
    simp only [truth, Option.some.injEq] at e2
    subst e2
    exact ⟨b, Opd.bool (W := W1) (H := H1) (.inl r1), q W1 H1 f1 w1⟩
/-! ### chains of two comparisons -/
theorem w_cmp2 {o o' : COp} {ia ib ic : IE} {σ : L2.St} {H : Hp} {Q : VK} (h : tJ cf Γ (.cmp2 o o' ia ib ic) .p σ H Q) : tChain (rOp2 (fCmp o)) (rOp2 (fCmp o')) (tB cf Γ ia) (tB cf Γ ib) (tB cf Γ ic) σ H Q := by
  obtain ⟨W, fp, γ, τ, d, τ', w, sl, ev, q⟩ := h
  simp only [evalE, Option.bind_eq_some_iff, Prod.exists] at ev
  obtain ⟨x, τ1, e1, y, τ2, e2, k, e3, e4⟩ := ev
  refine seq2 (Rr := fun vx vy H2 => rOp2 (fCmp o) vx vy H2 fun z H3 => ∃ k, z = .bl k ∧ (if k = true then tB cf Γ ic σ H3 fun w' H4 => rOp2 (fCmp o') vy w' H4 Q else Q (.bl false) H3)) w sl e1 e2 fun vx vy W2 H2 f2 w2 o1 o2 => ?_
  refine ⟨W2, τ2, x, y, .bool k, w2, o1, o2, by simp only [fCmp, e3, Option.map_some], fun v W3 H3 f3 w3 r3 => ?_⟩
  refine ⟨k, Opd.bool (W := W3) (H := H3) (.inl r3), ?_⟩
  have sl3 := (sl.mono f2).mono f3
  cases k with
  | false =>
    rw [if_neg Bool.false_ne_true] at e4 ⊢
    cases e4
    exact q _ W3 H3 (f2.trans f3) w3 (.bl _)
  | true =>
    rw [if_pos rfl] at e4 ⊢
    simp only [Option.bind_eq_some_iff, Option.map_eq_some_iff, Prod.mk.injEq, Prod.exists] at e4
    obtain ⟨z, τ3, e5, k', e6, rfl, rfl⟩ := e4
    exact ⟨W3, fp, γ, τ2, z, τ3, w3, sl3, e5, fun v4 W4 H4 f4 w4 o4 => ⟨W4, τ3, y, z, .bool k', w4, (o2.mono f3).mono f4, o4, by simp only [fCmp, e6, Option.map_some], fun v5 W5 H5 f5 w5 r5 => q v5 W5 H5 (((f2.trans f3).trans f4).trans f5) w5 r5⟩⟩
theorem je_cmp2 (hu : X.A.units + 150 < cLine) {o o' : COp} {a b c : Expr} {ia ib ic : IE} {pos : Pos} (ha : PE X a (tB cf Γ ia)) (hb : PE X b (tB cf Γ ib)) (hc : PE X c (tB cf Γ ic)) (hm : ∀ es k p, c ≠ .Set es k p) :
    PE X (.Compare a [copA o, copA o'] [b, c] pos) (tJ cf Γ (.cmp2 o o' ia ib ic) .p) :=
  PEw (pe_chain (or_cmp hu o) (or_cmp hu o') ha hb hc (behind_of hm)) fun σ H Q h => w_cmp2 h
theorem cmp2_bool {o o' : COp} {ia ib ic : IE} {γ : En} {τ τ' : Tape} {d : D} (e : evalE cf (.cmp2 o o' ia ib ic) γ τ = some (d, τ')) : ∃ b, d = .bool b := by
  simp only [evalE, Option.bind_eq_some_iff, Prod.exists] at e
  obtain ⟨x, τ1, e1, y, τ2, e2, k, e3, e4⟩ := e
  cases k with
  | false =>
    rw [if_neg Bool.false_ne_true] at e4
    cases e4
    exact ⟨_, rfl⟩
  | true =>
    rw [if_pos rfl] at e4
    simp only [Option.bind_eq_some_iff, Option.map_eq_some_iff, Prod.mk.injEq, Prod.exists] at e4
    obtain ⟨z, τ3, e5, k', e6, rfl, rfl⟩ := e4
    exact ⟨_, rfl⟩
theorem jt_cmp2 (hu : X.A.units + 150 < cLine) {o o' : COp} {a b c : Expr} {ia ib ic : IE} {pos : Pos} (ha : PE X a (tB cf Γ ia)) (hb : PE X b (tB cf Γ ib)) (hc : PE X c (tB cf Γ ic)) (hm : ∀ es k p, c ≠ .Set es k p) :
    PT X (.Compare a [copA o, copA o'] [b, c] pos) (tT cf Γ (.cmp2 o o' ia ib ic)) :=
  PTw (pt_chain (or_cmp hu o) (or_cmp hu o') ha hb hc (behind_of hm)) fun σ H Q ⟨W, fp, γ, τ, k, τ', w, sl, ev, q⟩ => by
    simp only [tst, Option.bind_eq_some_iff, Option.map_eq_some_iff, Prod.mk.injEq, Prod.exists] at ev
    obtain ⟨d, τ1, e1, k', e2, rfl, rfl⟩ := ev
    refine w_cmp2 ⟨W, fp, γ, τ, d, τ1, w, sl, e1, fun v W1 H1 f1 w1 r1 => ?_⟩
    obtain ⟨b, rfl⟩ := cmp2_bool e1
    simp only [truth, Option.some.injEq] at e2
    subst e2
    exact ⟨b, Opd.bool (W := W1) (H := H1) (.inl r1), q W1 H1 f1 w1⟩
/-! ### is None -/
theorem je_isN {a : Expr} {ia : IE} {j : Nat} {pos pos' : Pos} (ha : PE X a (tB cf Γ ia)) : PE X (.Compare a [.Is] [.Constant .none j pos'] pos) (tJ cf Γ (.isN ia) .p) :=
  PEw (pe_cmp (pc_isN ha)) fun σ H Q ⟨W, fp, γ, τ, d, τ', w, sl, ev, q⟩ => by
    simp only [evalE, Option.map_eq_some_iff, Prod.mk.injEq, Prod.exists] at ev
    obtain ⟨x, τ1, e1, rfl, rfl⟩ := ev
    refine ⟨W, fp, γ, τ, x, τ1, w, sl, e1, fun v W1 H1 f1 w1 o1 => ?_⟩
    show Q (.bl (decide (v = .non))) H1
    rw [o1.isN]
    exact q _ W1 H1 f1 w1 (.bl _)
theorem je_notN {a : Expr} {ia : IE} {j : Nat} {pos pos' : Pos} (ha : PE X a (tB cf Γ ia)) : PE X (.Compare a [.IsNot] [.Constant .none j pos'] pos) (tJ cf Γ (.notN ia) .p) :=
  PEw (pe_cmp (pc_notN ha)) fun σ H Q ⟨W, fp, γ, τ, d, τ', w, sl, ev, q⟩ => by
    simp only [evalE, Option.map_eq_some_iff, Prod.mk.injEq, Prod.exists] at ev
    obtain ⟨x, τ1, e1, rfl, rfl⟩ := ev
    refine ⟨W, fp, γ, τ, x, τ1, w, sl, e1, fun v W1 H1 f1 w1 o1 => ?_⟩
    show Q (.bl (!decide (v = .non))) H1
    rw [o1.isN]
    exact q _ W1 H1 f1 w1 (.bl _)
theorem jt_isN {a : Expr} {ia : IE} {j : Nat} {pos pos' : Pos} (ha : PE X a (tB cf Γ ia)) : PT X (.Compare a [.Is] [.Constant .none j pos'] pos) (tT cf Γ (.isN ia)) :=
  PTw (pt_cmp (pc_isN ha)) fun σ H Q ⟨W, fp, γ, τ, k, τ', w, sl, ev, q⟩ => by
    simp only [tst, evalE, Option.bind_eq_some_iff, Option.map_eq_some_iff, Prod.mk.injEq, Prod.exists] at ev
    obtain ⟨_, _, ⟨x, τ1, e1, rfl, rfl⟩, k', e2, rfl, rfl⟩ := ev
    refine ⟨W, fp, γ, τ, x, τ1, w, sl, e1, fun v W1 H1 f1 w1 o1 => ⟨decide (v = .non), rfl, ?_⟩⟩
    rw [o1.isN]
    cases e2
    exact q W1 H1 f1 w1
theorem jt_notN {a : Expr} {ia : IE} {j : Nat} {pos pos' : Pos} (ha : PE X a (tB cf Γ ia)) : PT X (.Compare a [.IsNot] [.Constant .none j pos'] pos) (tT cf Γ (.notN ia)) :=
  PTw (pt_cmp (pc_notN ha)) fun σ H Q ⟨W, fp, γ, τ, k, τ', w, sl, ev, q⟩ => by
    simp only [tst, evalE, Option.bind_eq_some_iff, Option.map_eq_some_iff, Prod.mk.injEq, Prod.exists] at ev
    obtain ⟨_, _, ⟨x, τ1, e1, rfl, rfl⟩, k', e2, rfl, rfl⟩ := ev
    refine ⟨W, fp, γ, τ, x, τ1, w, sl, e1, fun v W1 H1 f1 w1 o1 => ⟨!decide (v = .non), rfl, ?_⟩⟩
    rw [o1.isN]
    cases e2
    exact q W1 H1 f1 w1
/-! ### truth -/
theorem truV {W : Wd} {τ : Tape} {H : Hp} {v : V} {d : D} {k : Bool} (w : WI W τ H) (o : Opd W H v d) (e : truth d = some k) : TruV X.K v H k := by
  unfold truth at e
  split at e
  · cases e; cases o.none_; rfl
  · cases e; cases o.bool; rfl
  · cases e; cases o.int; rfl
  · split at e <;> first | cases e | skip
    cases o.str.1
    exact ⟨by assumption, rfl⟩
  · rename_i xs
    cases e
    obtain ⟨a, vs, rfl, h1, _, r, _⟩ := o.list w
    refine .inl ⟨vs, SqL.of h1, ?_⟩
    cases r <;> rfl
  · rename_i xs
    cases e
    obtain ⟨a, vs, rfl, h1, r, _⟩ := o.tup
    refine .inr (.inl ⟨vs, SqT.of (w.sub _ _ h1), ?_⟩)
    cases r <;> rfl
  · cases e
/-- a test that is no comparison and no connective: its value's truth -/
theorem jt_val {e : Expr} {ie : IE} (h : PE X e (tB cf Γ ie)) (he : ∀ whole, isTrue e X.env whole = (do let v ← whole; standAt e.pos; holding [v] (truthy v))) : PT X e (tT cf Γ ie) :=
  PTw (pt_truth h he) fun σ H Q ⟨W, fp, γ, τ, k, τ', w, sl, ev, q⟩ => by
    simp only [tst, Option.bind_eq_some_iff, Option.map_eq_some_iff, Prod.mk.injEq, Prod.exists] at ev
    obtain ⟨d, τ1, e1, k', e2, rfl, rfl⟩ := ev
    exact ⟨W, fp, γ, τ, d, τ1, w, sl, e1, fun v W1 H1 f1 w1 o1 => ⟨k', truV w1 o1 e2, q W1 H1 f1 w1⟩⟩
theorem jt_not {a : Expr} {ia : IE} {pos : Pos} (h : PT X a (tT cf Γ ia)) : PT X (.UnaryOp .Not a pos) (tT cf Γ (.not ia)) :=
  PTw (pt_not h) fun σ H Q ⟨W, fp, γ, τ, k, τ', w, sl, ev, q⟩ => by
    simp only [tst, evalE, Option.bind_eq_some_iff, Option.map_eq_some_iff, Prod.mk.injEq, Prod.exists] at ev
    obtain ⟨_, _, ⟨b, τ1, ⟨d, τ2, e1, b', e3, e4, e5⟩, rfl, rfl⟩, k', e2, rfl, rfl⟩ := ev
    simp only [truth, Option.some.injEq] at e2
    subst e2
    subst e4 e5
    exact ⟨W, fp, γ, τ, b', τ2, w, sl, by simp only [tst, e1, Option.bind_some, e3, Option.map_some], fun W1 H1 f1 w1 => q W1 H1 f1 w1⟩
theorem je_not {a : Expr} {ia : IE} {pos : Pos} (h : PE X a (tB cf Γ ia)) : PE X (.UnaryOp .Not a pos) (tJ cf Γ (.not ia) .p) :=
  PEw (pe_notT h) fun σ H Q ⟨W, fp, γ, τ, d, τ', w, sl, ev, q⟩ => by
    simp only [tst, evalE, Option.bind_eq_some_iff, Option.map_eq_some_iff, Prod.mk.injEq, Prod.exists] at ev
    obtain ⟨b, τ1, ⟨x, τ2, e1, b', e3, e4, e5⟩, rfl, rfl⟩ := ev
    subst e4 e5
    exact ⟨W, fp, γ, τ, x, τ2, w, sl, e1, fun v W1 H1 f1 w1 o1 => ⟨b', truV w1 o1 e3, q _ W1 H1 f1 w1 (.bl _)⟩⟩
theorem jw_one {op : BoolOp} {a : Expr} {t : TT} {pos : Pos} (h : PT X a t) : PW X (.BoolOp op [a] pos) t := by
  cases op with
  | And => exact pw_and1 h
  | Or => exact pw_or1 h
theorem jw_and {a b : Expr} {rest : List Expr} {ia ib : IE} {pos : Pos} (h : PT X a (tT cf Γ ia)) (h' : PW X (.BoolOp .And (b :: rest) pos) (tT cf Γ ib)) : PW X (.BoolOp .And (a :: b :: rest) pos) (tT cf Γ (.and ia ib)) :=
  PWw (pw_and h h') fun σ H Q ⟨W, fp, γ, τ, k, τ', w, sl, ev, q⟩ => by
    simp only [tst, evalE, Option.bind_eq_some_iff, Option.map_eq_some_iff, Prod.mk.injEq, Prod.exists] at ev
    obtain ⟨d, τ1, ⟨x, τ2, e1, b, e2, e3⟩, k', e4, rfl, rfl⟩ := ev
    refine ⟨W, fp, γ, τ, b, τ2, w, sl, by simp only [tst, e1, Option.bind_some, e2, Option.map_some], fun W1 H1 f1 w1 => ?_⟩
    cases b with
    | true =>
      rw [if_pos rfl] at e3 ⊢
      exact ⟨W1, fp, γ, τ2, k', τ1, w1, sl.mono f1, by simp only [tst, e3, Option.bind_some, e4, Option.map_some], fun W2 H2 f2 w2 => q W2 H2 (f1.trans f2) w2⟩
    | false =>
      rw [if_neg Bool.false_ne_true] at e3 ⊢
      cases e3
      rw [e2] at e4
      cases e4
      exact q W1 H1 f1 w1
theorem jw_or {a b : Expr} {rest : List Expr} {ia ib : IE} {pos : Pos} (h : PT X a (tT cf Γ ia)) (h' : PW X (.BoolOp .Or (b :: rest) pos) (tT cf Γ ib)) : PW X (.BoolOp .Or (a :: b :: rest) pos) (tT cf Γ (.or ia ib)) :=
  PWw (pw_or h h') fun σ H Q ⟨W, fp, γ, τ, k, τ', w, sl, ev, q⟩ => by
    simp only [tst, evalE, Option.bind_eq_some_iff, Option.map_eq_some_iff, Prod.mk.injEq, Prod.exists] at ev
    obtain ⟨d, τ1, ⟨x, τ2, e1, b, e2, e3⟩, k', e4, rfl, rfl⟩ := ev
    refine ⟨W, fp, γ, τ, b, τ2, w, sl, by simp only [tst, e1, Option.bind_some, e2, Option.map_some], fun W1 H1 f1 w1 => ?_⟩
    cases b with
    | false =>
      rw [if_neg Bool.false_ne_true] at e3 ⊢
      exact ⟨W1, fp, γ, τ2, k', τ1, w1, sl.mono f1, by simp only [tst, e3, Option.bind_some, e4, Option.map_some], fun W2 H2 f2 w2 => q W2 H2 (f1.trans f2) w2⟩
    | true =>
      rw [if_pos rfl] at e3 ⊢
      cases e3
      rw [e2] at e4
      cases e4
      exact q W1 H1 f1 w1
/-- a and b, a or b as values -/
theorem je_and {a b : Expr} {rest : List Expr} {ia ib : IE} {pos : Pos} (h : PE X a (tJ cf Γ ia .p)) (h' : PE X (.BoolOp .And (b :: rest) pos) (tJ cf Γ ib .p)) : PE X (.BoolOp .And (a :: b :: rest) pos) (tJ cf Γ (.and ia ib) .p) :=
  PEw (pe_andT h h') fun σ H Q ⟨W, fp, γ, τ, d, τ', w, sl, ev, q⟩ => by
    simp only [evalE, Option.bind_eq_some_iff, Prod.exists] at ev
    obtain ⟨x, τ1, e1, b, e2, e3⟩ := ev
    refine ⟨W, fp, γ, τ, x, τ1, w, sl, e1, fun v W1 H1 f1 w1 r1 => ⟨b, truV w1 (.inl r1) e2, ?_⟩⟩
    cases b with
    | true =>
      rw [if_pos rfl] at e3 ⊢
      exact ⟨W1, fp, γ, τ1, d, τ', w1, sl.mono f1, e3, fun v2 W2 H2 f2 w2 r2 => q v2 W2 H2 (f1.trans f2) w2 r2⟩
    | false =>
      rw [if_neg Bool.false_ne_true] at e3 ⊢
      cases e3
      exact q v W1 H1 f1 w1 r1
theorem je_or {a b : Expr} {rest : List Expr} {ia ib : IE} {pos : Pos} (h : PE X a (tJ cf Γ ia .p)) (h' : PE X (.BoolOp .Or (b :: rest) pos) (tJ cf Γ ib .p)) : PE X (.BoolOp .Or (a :: b :: rest) pos) (tJ cf Γ (.or ia ib) .p) :=
  PEw (pe_orT h h') fun σ H Q ⟨W, fp, γ, τ, d, τ', w, sl, ev, q⟩ => by
    simp only [evalE, Option.bind_eq_some_iff, Prod.exists] at ev
    obtain ⟨x, τ1, e1, b, e2, e3⟩ := ev
    refine ⟨W, fp, γ, τ, x, τ1, w, sl, e1, fun v W1 H1 f1 w1 r1 => ⟨b, truV w1 (.inl r1) e2, ?_⟩⟩
    cases b with
    | false =>
      rw [if_neg Bool.false_ne_true] at e3 ⊢
      exact ⟨W1, fp, γ, τ1, d, τ', w1, sl.mono f1, e3, fun v2 W2 H2 f2 w2 r2 => q v2 W2 H2 (f1.trans f2) w2 r2⟩
    | true =>
      rw [if_pos rfl] at e3 ⊢
      cases e3
      exact q v W1 H1 f1 w1 r1
theorem je_ite {c a b : Expr} {ic ia ib : IE} {t : Ty} {pos : Pos} (hc : PT X c (tT cf Γ ic)) (ha : PE X a (tJ cf Γ ia t)) (hb : PE X b (tJ cf Γ ib t)) : PE X (.IfExp c a b pos) (tJ cf Γ (.ite ic ia ib) t) :=
  PEw (pe_ifExp hc ha hb) fun σ H Q ⟨W, fp, γ, τ, d, τ', w, sl, ev, q⟩ => by
    simp only [evalE, Option.bind_eq_some_iff, Prod.exists] at ev
    obtain ⟨k, τ1, e1, e2⟩ := ev
    refine ⟨W, fp, γ, τ, k, τ1, w, sl, e1, fun W1 H1 f1 w1 => ?_⟩
    cases k with
    | true =>
      rw [if_pos rfl] at e2 ⊢
      exact ⟨W1, fp, γ, τ1, d, τ', w1, sl.mono f1, e2, fun v2 W2 H2 f2 w2 r2 => q v2 W2 H2 (f1.trans f2) w2 r2⟩
    | false =>
      rw [if_neg Bool.false_ne_true] at e2 ⊢
      exact ⟨W1, fp, γ, τ1, d, τ', w1, sl.mono f1, e2, fun v2 W2 H2 f2 w2 r2 => q v2 W2 H2 (f1.trans f2) w2 r2⟩
/-! ### items, slices -/
theorem atI_rp {B : Hp} {vs : List V} {ds : List D} {i : Int} {d : D} (r : RpA B vs ds) (e : atI ds i = some d) : ∃ v, atI vs i = some v ∧ Rp B v d := by
  unfold atI at e ⊢
  rw [r.length]
  obtain ⟨j, e1, e2⟩ := Option.bind_eq_some_iff.mp e
  obtain ⟨v, e3, r3⟩ := r.get e2
  exact ⟨v, by rw [e1]; exact e3, r3⟩
theorem ir_ix : IxR X (rOp2 opIx) := by
  intro value slice pins s σ H x y v u Q I rx ry h hp
  obtain ⟨W, τ, dx, dy, d, w, ox, oy, e, q⟩ := h
  unfold opIx at e
  split at e
  · obtain ⟨a, vs, rfl, h1, _, r, _⟩ := ox.list w
    cases oy.int
    obtain ⟨v', e1, r1⟩ := atI_rp r e
    exact ix_seq value slice pins s σ H _ _ v u Q I rx ry (.inl ⟨a, vs, _, v', rfl, rfl, SqL.of h1, e1, q v' W H (.refl W H) w r1⟩) hp
  · obtain ⟨a, vs, rfl, h1, r, _⟩ := ox.tup
    cases oy.int
    obtain ⟨v', e1, r1⟩ := atI_rp r e
    exact ix_seq value slice pins s σ H _ _ v u Q I rx ry (.inr (.inl ⟨a, vs, _, v', rfl, rfl, SqT.of (w.sub _ _ h1), e1, q v' W H (.refl W H) w r1⟩)) hp
  · cases e
theorem ev_ix {a b : IE} {γ : En} {τ τ' : Tape} {d : D} (e : evalE cf (.ix a b) γ τ = some (d, τ')) : ∃ x τ1 y, evalE cf a γ τ = some (x, τ1) ∧ evalE cf b γ τ1 = some (y, τ') ∧ opIx x y = some d := by
  simp only [evalE, Option.bind_eq_some_iff, Option.map_eq_some_iff, Prod.mk.injEq, Prod.exists] at e
  obtain ⟨x, τ1, h1, y, τ2, h2, d', h3, rfl, rfl⟩ := e
  exact ⟨x, τ1, y, h1, h2, h3⟩
theorem je_ix {a b : Expr} {ia ib : IE} {pos : Pos} (ha : PE X a (tB cf Γ ia)) (hb : PE X b (tB cf Γ ib)) (hs : PlainIx b) : PE X (.Subscript a b pos) (tJ cf Γ (.ix ia ib) .p) :=
  PEw (pe_ix ir_ix ha hb hs) fun σ H Q h => w_op2 (fun _ _ _ _ e => ev_ix e) h
def rSl : V → Option Int → Option Int → Hp → VK → Prop := fun x lo hi H Q => ∃ W τ dx d, WI W τ H ∧ Opd W H x dx ∧ opSl dx lo hi = some d ∧ ∀ v W' H', FrE W H W' H' → WI W' τ H' → Rp W'.B v d → Q v H'
theorem cut_rp {B : Hp} {vs : List V} {ds : List D} (r : RpA B vs ds) (lo hi : Option Int) : RpA B (cutV vs lo hi) (cutD ds lo hi) := by
  unfold cutV cutD
  rw [r.length]
  exact (r.drop _).take _
theorem cut_len (ds : List D) (lo hi : Option Int) : (cutD ds lo hi).length ≤ ds.length := by
  unfold cutD
  rw [List.length_take, List.length_drop]
  omega
theorem sr_sl : SlR X rSl := by
  intro pins s σ H x v vl vu lo hi sl Q I rx hs pl pu h
  obtain ⟨W, τ, dx, d, w, ox, e, q⟩ := h
  unfold opSl at e
  split at e
  · cases e
    obtain ⟨a, vs, rfl, h1, _, r, l⟩ := ox.list w
    refine sl_list pins s σ H _ v vl vu lo hi sl Q I rx hs pl pu ⟨a, vs, rfl, SqL.of h1, fun p hp => ?_⟩
    obtain ⟨f, w'⟩ := new_obj w (.lst (cutV vs lo hi)) hp
    exact q _ _ _ f w' (.lst upd_same ((cut_rp r lo hi).mono f.B) (Nat.le_trans (cut_len _ _ _) l))
  · cases e
    obtain ⟨a, vs, rfl, h1, r, l⟩ := ox.tup
    refine sl_tupA pins s σ H _ v vl vu lo hi sl Q I rx hs pl pu ⟨a, vs, rfl, SqT.of (w.sub _ _ h1), fun c => ?_, fun _ p hp => ?_⟩
    · have e1 : cutV vs lo hi = vs := by
        unfold cutV
        rw [c.1, c.2]
        simp
      refine q _ W H (.refl W H) w (.tup h1 (by have := cut_rp r lo hi; rw [e1] at this; exact this) (Nat.le_trans (cut_len _ _ _) l))
    · obtain ⟨f, w'⟩ := new_obj w (.tup (cutV vs lo hi)) hp
      exact q _ _ _ f w' (.tup upd_same ((cut_rp r lo hi).mono f.B) (Nat.le_trans (cut_len _ _ _) l))
  · cases e
theorem intOf_some {d : D} {i : Int} (e : intOf d = some i) : d = .int i := by
  unfold intOf at e
  split at e
  · cases e; rfl
  · cases e
theorem je_slF {a lo : Expr} {ia il : IE} {pos p2 : Pos} (ha : PE X a (tB cf Γ ia)) (hl : PE X lo (tB cf Γ il)) : PE X (.Subscript a (.Slice (some lo) none none p2) pos) (tJ cf Γ (.slF ia il) .p) :=
  PEw (pe_slice sr_sl ha (po_some hl) po_none) fun σ H Q ⟨W, fp, γ, τ, d, τ', w, sl, ev, q⟩ => by
    simp only [evalE, Option.bind_eq_some_iff, Option.map_eq_some_iff, Prod.mk.injEq, Prod.exists] at ev
    obtain ⟨x, τ1, e1, y, τ2, e2, i, e3, d', e4, rfl, rfl⟩ := ev
    cases intOf_some e3
    exact seq2 (Rr := fun vx vy H2 => ∃ i, vy = .int i ∧ rSl vx (some i) none H2 Q) w sl e1 e2 fun vx vy W2 H2 f2 w2 o1 o2 => ⟨i, o2.int, W2, τ2, x, d', w2, o1, e4, fun v W3 H3 f3 w3 r3 => q v W3 H3 (f2.trans f3) w3 r3⟩
theorem je_slT {a hi : Expr} {ia ih : IE} {pos p2 : Pos} (ha : PE X a (tB cf Γ ia)) (hl : PE X hi (tB cf Γ ih)) : PE X (.Subscript a (.Slice none (some hi) none p2) pos) (tJ cf Γ (.slT ia ih) .p) :=
  PEw (pe_slice sr_sl ha po_none (po_some hl)) fun σ H Q ⟨W, fp, γ, τ, d, τ', w, sl, ev, q⟩ => by
    simp only [evalE, Option.bind_eq_some_iff, Option.map_eq_some_iff, Prod.mk.injEq, Prod.exists] at ev
    obtain ⟨x, τ1, e1, y, τ2, e2, i, e3, d', e4, rfl, rfl⟩ := ev
    cases intOf_some e3
    exact seq2 (Rr := fun vx vy H2 => ∃ i, vy = .int i ∧ rSl vx none (some i) H2 Q) w sl e1 e2 fun vx vy W2 H2 f2 w2 o1 o2 => ⟨i, o2.int, W2, τ2, x, d', w2, o1, e4, fun v W3 H3 f3 w3 r3 => q v W3 H3 (f2.trans f3) w3 r3⟩
theorem je_slB {a lo hi : Expr} {ia il ih : IE} {pos p2 : Pos} (ha : PE X a (tB cf Γ ia)) (hl : PE X lo (tB cf Γ il)) (hh : PE X hi (tB cf Γ ih)) : PE X (.Subscript a (.Slice (some lo) (some hi) none p2) pos) (tJ cf Γ (.slB ia il ih) .p) :=
  PEw (pe_slice sr_sl ha (po_some hl) (po_some hh)) fun σ H Q ⟨W, fp, γ, τ, d, τ', w, sl, ev, q⟩ => by
    simp only [evalE, Option.bind_eq_some_iff, Option.map_eq_some_iff, Prod.mk.injEq, Prod.exists] at ev
    obtain ⟨x, τ1, e1, y, τ2, e2, z, τ3, e5, i, e3, j, e6, d', e4, rfl, rfl⟩ := ev
    cases intOf_some e3
    cases intOf_some e6
    exact seq2 (Rr := fun vx vy H2 => ∃ i, vy = .int i ∧ tB cf Γ ih σ H2 fun vz H3 => ∃ j, vz = .int j ∧ rSl vx (some i) (some j) H3 Q) w sl e1 e2 fun vx vy W2 H2 f2 w2 o1 o2 => ⟨i, o2.int, W2, fp, γ, τ2, _, τ3, w2, sl.mono f2, e5, fun vz W3 H3 f3 w3 o3 =>
      ⟨j, o3.int, W3, τ3, x, d', w3, o1.mono f3, e4, fun v W4 H4 f4 w4 r4 => q v W4 H4 ((f2.trans f3).trans f4) w4 r4⟩⟩
theorem je_rev {a : Expr} {ia : IE} {k : Nat} {p1 p2 p3 pos : Pos} (ha : PE X a (tB cf Γ ia)) : PE X (.Subscript a (.Slice none none (some (.UnaryOp .USub (.Constant (.int 1) k p1) p2)) p3) pos) (tJ cf Γ (.rev ia) .p) :=
  PEw (pe_revL ha) fun σ H Q ⟨W, fp, γ, τ, d, τ', w, sl, ev, q⟩ => by
    simp only [evalE, Option.bind_eq_some_iff, Option.map_eq_some_iff, Prod.mk.injEq, Prod.exists] at ev
    obtain ⟨x, τ1, e1, d', e2, rfl, rfl⟩ := ev
    split at e2
    · cases e2
      refine ⟨W, fp, γ, τ, _, τ1, w, sl, e1, fun v W1 H1 f1 w1 o1 => ?_⟩
      obtain ⟨a, vs, rfl, h1, _, r, l⟩ := o1.list w1
      refine ⟨a, vs, rfl, SqL.of h1, fun p hp => ?_⟩
      obtain ⟨f2, w2⟩ := new_obj w1 (.lst vs.reverse) hp
      exact q _ _ _ (f1.trans f2) w2 (.lst upd_same (r.reverse.mono f2.B) (by rw [List.length_reverse]; exact l))
    · cases e2
end
end Ev
set_option Elab.async false
set_option linter.all false
set_option maxRecDepth 100000
set_option autoImplicit false
/-! Ev5: built-in functions, methods, calls. -/
namespace Ev
open PySem PySem.Spec PyProof.Rows L2
section
variable {cf : CF} {Γ : List Ty} {X : Cx}
/-- a built-in of one argument, by values -/
def rC1 (f : D → Option D) : List V → Hp → VK → Prop := fun xs H Q => ∃ W τ x dx d, xs = [x] ∧ WI W τ H ∧ Opd W H x dx ∧ f dx = some d ∧ ∀ v W' H', FrE W H W' H' → WI W' τ H' → Rp W'.B v d → Q v H'
def rC2 (f : D → D → Option D) : List V → Hp → VK → Prop := fun xs H Q => ∃ W τ x y dx dy d, xs = [x, y] ∧ WI W τ H ∧ Opd W H x dx ∧ Opd W H y dy ∧ f dx dy = some d ∧ ∀ v W' H', FrE W H W' H' → WI W' τ H' → Rp W'.B v d → Q v H'
theorem cr_len : CallR X (.builtin "len") (rC1 bLen) := by
  intro pins s σ H xs us Q I r h
  obtain ⟨W, τ, x, dx, d, rfl, w, o, e, q⟩ := h
  unfold bLen at e
  split at e
  · cases e
    obtain ⟨a, vs, rfl, h1, _, r1, _⟩ := o.list w
    refine call_len_seq pins s σ H _ us Q I r ⟨a, vs, rfl, .inl (SqL.of h1), ?_⟩
    rw [r1.length]
    exact q _ W H (.refl W H) w (.int _)
  · cases e
    obtain ⟨a, vs, rfl, h1, r1, _⟩ := o.tup
    refine call_len_seq pins s σ H _ us Q I r ⟨a, vs, rfl, .inr (SqT.of (w.sub _ _ h1)), ?_⟩
    rw [r1.length]
    exact q _ W H (.refl W H) w (.int _)
  · cases e
theorem cr_tuple : CallR X (.type "tuple") (rC1 bTup) := by
  intro pins s σ H xs us Q I r h
  obtain ⟨W, τ, x, dx, d, rfl, w, o, e, q⟩ := h
  unfold bTup at e
  split at e
  · cases e
    obtain ⟨a, vs, rfl, h1, _, r1, l⟩ := o.list w
    refine call_tuple_of pins s σ H _ us Q I r ⟨a, vs, rfl, .inl ⟨SqL.of h1, fun p hp => ?_⟩⟩
    obtain ⟨f, w'⟩ := new_obj w (.tup vs) hp
    exact q _ _ _ f w' (.tup upd_same (r1.mono f.B) l)
  · cases e
    obtain ⟨a, vs, rfl, h1, r1, l⟩ := o.tup
    exact call_tuple_of pins s σ H _ us Q I r ⟨a, vs, rfl, .inr ⟨SqT.of (w.sub _ _ h1), q _ W H (.refl W H) w (.tup h1 r1 l)⟩⟩
  · cases e
theorem cr_list : CallR X (.type "list") (rC1 bLst) := by
  intro pins s σ H xs us Q I r h
  obtain ⟨W, τ, x, dx, d, rfl, w, o, e, q⟩ := h
  unfold bLst at e
  split at e
  · cases e
    obtain ⟨a, vs, rfl, h1, _, r1, l⟩ := o.list w
    refine call_list_of pins s σ H _ us Q I r ⟨a, vs, rfl, .inl (SqL.of h1), fun p hp => ?_⟩
    obtain ⟨f, w'⟩ := new_obj w (.lst vs) hp
    exact q _ _ _ f w' (.lst upd_same (r1.mono f.B) l)
  · cases e
    obtain ⟨a, vs, rfl, h1, r1, l⟩ := o.tup
    refine call_list_of pins s σ H _ us Q I r ⟨a, vs, rfl, .inr (SqT.of (w.sub _ _ h1)), fun p hp => ?_⟩
    obtain ⟨f, w'⟩ := new_obj w (.lst vs) hp
    exact q _ _ _ f w' (.lst upd_same (r1.mono f.B) l)
  · cases e
theorem cr_int : CallR X (.type "int") (rC1 bInt) := by
  intro pins s σ H xs us Q I r h
  obtain ⟨W, τ, x, dx, d, rfl, w, o, e, q⟩ := h
  unfold bInt at e
  split at e
  · cases e
    cases o.int
    exact call_int1 pins s σ H _ us Q I r (.inl ⟨_, rfl, q _ W H (.refl W H) w (.int _)⟩)
  · cases e
    cases o.bool
    exact call_int1 pins s σ H _ us Q I r (.inr ⟨_, rfl, q _ W H (.refl W H) w (.int _)⟩)
  · cases e
theorem cr_abs : CallR X (.builtin "abs") (rC1 bAbs) := by
  intro pins s σ H xs us Q I r h
  obtain ⟨W, τ, x, dx, d, rfl, w, o, e, q⟩ := h
  unfold bAbs at e
  split at e
  · cases e
    cases o.int
    exact call_abs pins s σ H _ us Q I r ⟨_, rfl, q _ W H (.refl W H) w (.int _)⟩
  · cases e
theorem seqOf_some {x : D} {xs : List D} (e : seqOf x = some xs) : x = .list xs ∨ x = .tuple xs := by
  unfold seqOf at e
  split at e
  · cases e; exact .inl rfl
  · cases e; exact .inr rfl
  · cases e
theorem listOf_some {x : D} {xs : List D} (e : listOf x = some xs) : x = .list xs := by
  unfold listOf at e
  split at e
  · cases e; rfl
  · cases e
theorem ints_list {xs : List D} {ns : List Int} : intsOf xs = some ns → xs = ns.map .int := by
  induction xs generalizing ns with
  | nil => intro e; simp only [intsOf, Option.some.injEq] at e; subst e; rfl
  | cons x r ih =>
    intro e
    unfold intsOf at e
    split at e
    · rename_i heq; cases heq
    · rename_i heq
      cases heq
      obtain ⟨ms, e1, e2⟩ := Option.map_eq_some_iff.mp e
      subst e2
      rw [ih e1]
      rfl
    · cases e
theorem cr_sum' (hc : X.calm = true) : CallR X (.builtin "sum") (rC1 bSum) := by
  intro pins s σ H xs us Q I r h
  obtain ⟨W, τ, x, dx, d, rfl, w, o, e, q⟩ := h
  unfold bSum at e
  obtain ⟨ns, e1, rfl⟩ := Option.map_eq_some_iff.mp e
  obtain ⟨ys, e2, e3⟩ := Option.bind_eq_some_iff.mp e1
  rcases seqOf_some e2 with rfl | rfl
  · obtain ⟨a, vs, rfl, h1, _, r1, l⟩ := o.list w
    have ev := r1.ints e3
    subst ev
    exact cr_sum hc pins s σ H _ us Q I r ⟨a, ns, rfl, SqL.of h1, q _ W H (.refl W H) w (.int _)⟩
  · obtain ⟨a, vs, rfl, h1, r1, l⟩ := o.tup
    have ev := r1.ints e3
    subst ev
    obtain ⟨its, rv, ht, _⟩ := I.tuple (SqT.of (K := X.K) (w.sub _ _ h1))
    rw [Vals.ref1 r]
    have hi := rv.ints
    obtain ⟨zs, hx⟩ := hi.allInts.items
    have hn : numsOf (intItems zs).toList = ns := by rw [← hx]; exact hi.numsOf
    rw [nums_intItems] at hn
    rw [hx] at ht
    refine PySem.W.ktm_sumG (I.ok.hd hc) ht fun h' tk t' hk => ⟨.int ns.sum, H, I.kept hk, ⟨t', ?_⟩, q _ W H (.refl W H) w (.int _)⟩
    rw [preSum_eq, List.take_of_length_le (by simp), hn]
theorem maxI_max {ns : List Int} {m : Int} (e : maxI ns = some m) : 0 < ns.length ∧ ∀ k, k ∈ ns → (∀ y ∈ ns, y ≤ k) → k = m := by
  cases ns with
  | nil => cases e
  | cons x r =>
    cases e
    refine ⟨Nat.succ_pos _, fun k hk hle => ?_⟩
    have key : ∀ (r : List Int) (x : Int), (x ≤ r.foldl max x) ∧ (∀ y ∈ r, y ≤ r.foldl max x) ∧ (r.foldl max x = x ∨ r.foldl max x ∈ r) := by
      intro r
      induction r with
      | nil => intro x; exact ⟨Int.le_refl _, (fun y hy => by cases hy), Or.inl rfl⟩
      | cons a r ih =>
        intro x
        obtain ⟨h1, h2, h3⟩ := ih (max x a)
        rw [List.foldl_cons]
        refine ⟨by omega, fun y hy => ?_, ?_⟩
        · rcases List.mem_cons.mp hy with rfl | hy
          · omega
          · exact h2 y hy
        · rcases h3 with h3 | h3
          · rcases Int.le_total x a with hx | hx
            · right
              rw [h3, Int.max_eq_right hx]
              exact List.mem_cons_self
            · left
              rw [h3, Int.max_eq_left hx]
          · exact .inr (List.mem_cons_of_mem _ h3)
    obtain ⟨h1, h2, h3⟩ := key r x
    have a1 : k ≤ r.foldl max x := by
      rcases List.mem_cons.mp hk with rfl | hk
      · exact h1
      · exact h2 k hk
    have a2 : r.foldl max x ≤ k := by
      rcases h3 with h3 | h3
      · rw [h3]; exact hle x List.mem_cons_self
      · exact hle _ (List.mem_cons_of_mem _ h3)
    omega
theorem minI_min {ns : List Int} {m : Int} (e : minI ns = some m) : 0 < ns.length ∧ ∀ k, k ∈ ns → (∀ y ∈ ns, k ≤ y) → k = m := by
  cases ns with
  | nil => cases e
  | cons x r =>
    cases e
    refine ⟨Nat.succ_pos _, fun k hk hle => ?_⟩
    have key : ∀ (r : List Int) (x : Int), (r.foldl min x ≤ x) ∧ (∀ y ∈ r, r.foldl min x ≤ y) ∧ (r.foldl min x = x ∨ r.foldl min x ∈ r) := by
      intro r
      induction r with
      | nil => intro x; exact ⟨Int.le_refl _, (fun y hy => by cases hy), Or.inl rfl⟩
      | cons a r ih =>
        intro x
        obtain ⟨h1, h2, h3⟩ := ih (min x a)
        rw [List.foldl_cons]
        refine ⟨by omega, fun y hy => ?_, ?_⟩
        · rcases List.mem_cons.mp hy with rfl | hy
          · omega
          · exact h2 y hy
        · rcases h3 with h3 | h3
          · rcases Int.le_total x a with hx | hx
            · left
              rw [h3, Int.min_eq_left hx]
            · right
              rw [h3, Int.min_eq_right hx]
              exact List.mem_cons_self
          · exact .inr (List.mem_cons_of_mem _ h3)
    obtain ⟨h1, h2, h3⟩ := key r x
    have a1 : r.foldl min x ≤ k := by
      rcases List.mem_cons.mp hk with rfl | hk
      · exact h1
      · exact h2 k hk
    have a2 : k ≤ r.foldl min x := by
      rcases h3 with h3 | h3
      · rw [h3]; exact hle x List.mem_cons_self
      · exact hle _ (List.mem_cons_of_mem _ h3)
    omega
theorem alike_ints (ns : List Int) : PySem.W.AlikeAll (ns.map PyData.int) := by
  refine ⟨fun x hx y hy => ?_, fun x hx => ?_⟩
  · obtain ⟨i, _, rfl⟩ := List.mem_map.mp hx
    obtain ⟨j, _, rfl⟩ := List.mem_map.mp hy
    rfl
  · obtain ⟨i, _, rfl⟩ := List.mem_map.mp hx
    exact fun z => nomatch z
theorem depth_ints : ∀ ns : List Int, PyData.depthAll (ns.map PyData.int) = 0
  | [] => by simp [PyData.depthAll]
  | n :: r => by simp [PyData.depthAll, PyData.depth, depth_ints r]
theorem reads_int {h : Heap} {v : Value} {i : Int} {as : List Addr} (r : Reads h v (.int i) as) : ∃ t, v = .int i t := by
  cases r
  exact ⟨_, rfl⟩
theorem cr_max' (hc : X.calm = true) (hu : X.A.units + 150 < cLine) : CallR X (.builtin "max") (rC1 bMax) := by
  intro pins s σ H xs us Q I r h
  obtain ⟨W, τ, x, dx, d, rfl, w, o, e, q⟩ := h
  unfold bMax at e
  obtain ⟨ns, e1, e4⟩ := Option.bind_eq_some_iff.mp e
  obtain ⟨m, e5, rfl⟩ := Option.map_eq_some_iff.mp e4
  obtain ⟨ys, e2, e3⟩ := Option.bind_eq_some_iff.mp e1
  obtain ⟨hp, hm⟩ := maxI_max e5
  rcases seqOf_some e2 with rfl | rfl
  · obtain ⟨a, vs, rfl, h1, _, r1, l⟩ := o.list w
    have ev := r1.ints e3
    subst ev
    exact cr_max hc pins s σ H _ us Q I r ⟨a, ns, rfl, SqL.of h1, hp, fun k hk hle => by rw [hm k hk hle]; exact q _ W H (.refl W H) w (.int _)⟩
  · obtain ⟨a, vs, rfl, h1, r1, l⟩ := o.tup
    have ed := ints_list e3
    subst ed
    obtain ⟨its, rv, ht, _⟩ := I.tuple (SqT.of (K := X.K) (w.sub _ _ h1))
    obtain ⟨as, hr⟩ := Dp.readsAll I _ _ its (r1.dp (K := X.K) w.sub) rv
    rw [Vals.ref1 r]
    cases ns with
    | nil => exact absurd hp (Nat.lt_irrefl _)
    | cons n ns =>
      refine PySem.W.max_tuple_data (I.ok.hd hc) ht hr (alike_ints (n :: ns)) ?_ fun i v h' tk bs _ rr hk => ?_
      · rw [show (PyData.int n :: ns.map PyData.int) = (n :: ns).map PyData.int from rfl, depth_ints]
        omega
      · rw [PySem.W.maxD_ints] at rr
        obtain ⟨t, rfl⟩ := reads_int rr
        cases e5
        exact ⟨.int _, H, I.kept hk, ⟨t, rfl⟩, q _ W H (.refl W H) w (.int _)⟩
theorem cr_min' (hc : X.calm = true) (hu : X.A.units + 150 < cLine) : CallR X (.builtin "min") (rC1 bMin) := by
  intro pins s σ H xs us Q I r h
  obtain ⟨W, τ, x, dx, d, rfl, w, o, e, q⟩ := h
  unfold bMin at e
  obtain ⟨ns, e1, e4⟩ := Option.bind_eq_some_iff.mp e
  obtain ⟨m, e5, rfl⟩ := Option.map_eq_some_iff.mp e4
  obtain ⟨ys, e2, e3⟩ := Option.bind_eq_some_iff.mp e1
  obtain ⟨hp, hm⟩ := minI_min e5
  rcases seqOf_some e2 with rfl | rfl
  · obtain ⟨a, vs, rfl, h1, _, r1, l⟩ := o.list w
    have ev := r1.ints e3
    subst ev
    exact cr_min hc pins s σ H _ us Q I r ⟨a, ns, rfl, SqL.of h1, hp, fun k hk hle => by rw [hm k hk hle]; exact q _ W H (.refl W H) w (.int _)⟩
  · obtain ⟨a, vs, rfl, h1, r1, l⟩ := o.tup
    have ed := ints_list e3
    subst ed
    obtain ⟨its, rv, ht, _⟩ := I.tuple (SqT.of (K := X.K) (w.sub _ _ h1))
    obtain ⟨as, hr⟩ := Dp.readsAll I _ _ its (r1.dp (K := X.K) w.sub) rv
    rw [Vals.ref1 r]
    cases ns with
    | nil => exact absurd hp (Nat.lt_irrefl _)
    | cons n ns =>
      refine PySem.W.min_tuple_data (I.ok.hd hc) ht hr (alike_ints (n :: ns)) ?_ fun i v h' tk bs _ rr hk => ?_
      · rw [show (PyData.int n :: ns.map PyData.int) = (n :: ns).map PyData.int from rfl, depth_ints]
        omega
      · rw [PySem.W.minD_ints] at rr
        obtain ⟨t, rfl⟩ := reads_int rr
        cases e5
        exact ⟨.int _, H, I.kept hk, ⟨t, rfl⟩, q _ W H (.refl W H) w (.int _)⟩
theorem cr_all' (hc : X.calm = true) : CallR X (.builtin "all") (rC1 bAll) := by
  intro pins s σ H xs us Q I r h
  obtain ⟨W, τ, x, dx, d, rfl, w, o, e, q⟩ := h
  unfold bAll at e
  obtain ⟨ns, e1, rfl⟩ := Option.map_eq_some_iff.mp e
  obtain ⟨ys, e2, e3⟩ := Option.bind_eq_some_iff.mp e1
  cases listOf_some e2
  obtain ⟨a, vs, rfl, h1, _, r1, l⟩ := o.list w
  have ev := r1.bools e3
  subst ev
  exact L2.cr_all hc pins s σ H _ us Q I r ⟨a, ns, rfl, SqL.of h1, q _ W H (.refl W H) w (.bl _)⟩
theorem cr_any' (hc : X.calm = true) : CallR X (.builtin "any") (rC1 bAny) := by
  intro pins s σ H xs us Q I r h
  obtain ⟨W, τ, x, dx, d, rfl, w, o, e, q⟩ := h
  unfold bAny at e
  obtain ⟨ns, e1, rfl⟩ := Option.map_eq_some_iff.mp e
  obtain ⟨ys, e2, e3⟩ := Option.bind_eq_some_iff.mp e1
  cases listOf_some e2
  obtain ⟨a, vs, rfl, h1, _, r1, l⟩ := o.list w
  have ev := r1.bools e3
  subst ev
  exact L2.cr_any hc pins s σ H _ us Q I r ⟨a, ns, rfl, SqL.of h1, q _ W H (.refl W H) w (.bl _)⟩
theorem i2_some {f : Int → Int → Int} {x y d : D} (e : i2 f x y = some d) : ∃ i j, x = .int i ∧ y = .int j ∧ d = .int (f i j) := by
  unfold i2 at e
  split at e
  · cases e; exact ⟨_, _, rfl, rfl, rfl⟩
  · cases e
theorem cr_max2 (hc : X.calm = true) : CallR X (.builtin "max") (rC2 (opB2 .max)) := by
  intro pins s σ H xs us Q I r h
  obtain ⟨W, τ, x, y, dx, dy, d, rfl, w, o1, o2, e, q⟩ := h
  obtain ⟨i, j, rfl, rfl, rfl⟩ := i2_some e
  cases o1.int
  cases o2.int
  exact call_max2 hc pins s σ H _ us Q I r ⟨i, j, rfl, q _ W H (.refl W H) w (.int _)⟩
theorem cr_min2 (hc : X.calm = true) : CallR X (.builtin "min") (rC2 (opB2 .min)) := by
  intro pins s σ H xs us Q I r h
  obtain ⟨W, τ, x, y, dx, dy, d, rfl, w, o1, o2, e, q⟩ := h
  obtain ⟨i, j, rfl, rfl, rfl⟩ := i2_some e
  cases o1.int
  cases o2.int
  exact call_min2 hc pins s σ H _ us Q I r ⟨i, j, rfl, q _ W H (.refl W H) w (.int _)⟩
end
end Ev
set_option Elab.async false
set_option linter.all false
set_option maxRecDepth 100000
set_option autoImplicit false
/-! Ev6: calls of defs, of built-ins by name, methods; what is walked. -/
namespace Ev
open PySem PySem.Spec PyProof.Rows L2
section
variable {cf : CF} {Γ : List Ty} {X : Cx}
/-! ### defs -/
/-- the promise of a def, by a run -/
def spC (cf : CF) (pty : List Ty) (res : Ty) (f : Nat) : Sp := fun vs H Q _ => vs.length = pty.length ∧ ∃ W τ ds d τ', WI W τ H ∧ JvA W pty vs ds ∧ cf f ds τ = some (d, τ') ∧ ∀ v W' H', FrE W H W' H' → WI W' τ' H' → Jv W' res v d → Q v H'
theorem JvA.len {W : Wd} : ∀ {ts : List Ty} {vs : List V} {ds : List D}, JvA W ts vs ds → vs.length = ts.length ∧ ds.length = ts.length
  | [], [], [], _ => ⟨rfl, rfl⟩
  | _ :: _, _ :: _, _ :: _, h => by
    obtain ⟨h1, h2⟩ := JvA.len h.2
    exact ⟨by rw [List.length_cons, List.length_cons, h1], by rw [List.length_cons, List.length_cons, h2]⟩
theorem je_call {k : Nat} {fa : Addr} {fd : FuncData} {ps : List Str} {pty : List Ty} {res : Ty} {f : Nat} {x : Str} {p pos : Pos} {e : Expr} {es : List Expr} {ies : List IE} (F : FnOk X.prog X.w X.K X.mg X.base CX0 k fa fd ps (spC cf pty res f)) (hr : Room k X.A)
    (hg : Gl X x) (hm : X.mg x = some (.ref fa)) (hk : PySem.W.keepIn X.K (.ref fa) = true) (hb : Binds X.K fd ps []) (ha : PA X (e :: es) (tJs cf Γ ies pty)) (hdb : (x == ("__debug__" : Str)) = false)
    (he : starEach (e :: es) X.env = (false, eval e X.env) :: starEach es X.env) (hpl : (backTo pos (starEach es X.env)).any (·.1) = false) : PE X (.Call (.Name x p) (e :: es) [] pos) (tJ cf Γ (.call f ies) res) :=
  PEw (pe_call (dvs := []) F hr hg hm hk hb .nil pass0 ha hdb he hpl) fun σ H Q ⟨W, fp, γ, τ, d, τ', w, sl, ev, q⟩ => by
    simp only [evalE, Option.bind_eq_some_iff, Prod.exists] at ev
    obtain ⟨ds, τ1, e1, e2⟩ := ev
    refine ⟨W, fp, γ, τ, ds, τ1, w, sl, e1, fun vs W1 H1 f1 w1 r1 => ?_⟩
    show spC cf pty res f (vs ++ []) H1 Q E0
    rw [List.append_nil]
    exact ⟨r1.len.1, W1, τ1, ds, d, τ', w1, r1, e2, fun v W2 H2 f2 w2 r2 => q v W2 H2 (f1.trans f2) w2 r2⟩
theorem je_call0 {k : Nat} {fa : Addr} {fd : FuncData} {ps : List Str} {res : Ty} {f : Nat} {x : Str} {p pos : Pos} (F : FnOk X.prog X.w X.K X.mg X.base CX0 k fa fd ps (spC cf [] res f)) (hr : Room k X.A)
    (hg : Gl X x) (hm : X.mg x = some (.ref fa)) (hk : PySem.W.keepIn X.K (.ref fa) = true) (hb : Binds X.K fd ps []) (hdb : (x == ("__debug__" : Str)) = false) : PE X (.Call (.Name x p) [] [] pos) (tJ cf Γ (.call f []) res) :=
  PEw (pe_call0 (dvs := []) F hr hg hm hk hb .nil pass0 hdb) fun σ H Q ⟨W, fp, γ, τ, d, τ', w, sl, ev, q⟩ => by
    simp only [evalE, Option.bind_eq_some_iff, Prod.exists] at ev
    obtain ⟨ds, τ1, e1, e2⟩ := ev
    cases evs_nil e1
    exact ⟨rfl, W, τ, [], d, τ', w, trivial, e2, fun v W2 H2 f2 w2 r2 => q v W2 H2 f2 w2 r2⟩
/-! ### built-ins by name -/
theorem w_c1 {f : D → Option D} {ia ie : IE} {σ : L2.St} {H : Hp} {Q : VK} (he : ∀ γ τ d τ', evalE cf ie γ τ = some (d, τ') → ∃ x, evalE cf ia γ τ = some (x, τ') ∧ f x = some d) (h : tJ cf Γ ie .p σ H Q) : tCB (rC1 f) (tBs cf Γ [ia]) σ H Q := by
  obtain ⟨W, fp, γ, τ, d, τ', w, sl, ev, q⟩ := h
  obtain ⟨x, e1, e2⟩ := he γ τ d τ' ev
  refine ⟨W, fp, γ, τ, [x], τ', w, sl, by simp only [evalEs, e1, Option.bind_some, Option.map_some], fun vs W1 H1 f1 w1 o1 => ?_⟩
  match vs, o1 with
  | [v], o1 => exact ⟨W1, τ', v, x, d, rfl, w1, o1.1, e2, fun v2 W2 H2 f2 w2 r2 => q v2 W2 H2 (f1.trans f2) w2 r2⟩
theorem w_c2 {f : D → D → Option D} {ia ib ie : IE} {σ : L2.St} {H : Hp} {Q : VK} (he : ∀ γ τ d τ', evalE cf ie γ τ = some (d, τ') → ∃ x τ1 y, evalE cf ia γ τ = some (x, τ1) ∧ evalE cf ib γ τ1 = some (y, τ') ∧ f x y = some d) (h : tJ cf Γ ie .p σ H Q) : tCB (rC2 f) (tBs cf Γ [ia, ib]) σ H Q := by
  obtain ⟨W, fp, γ, τ, d, τ', w, sl, ev, q⟩ := h
  obtain ⟨x, τ1, y, e1, e2, e3⟩ := he γ τ d τ' ev
  refine ⟨W, fp, γ, τ, [x, y], τ', w, sl, by simp only [evalEs, e1, e2, Option.bind_some, Option.map_some], fun vs W1 H1 f1 w1 o1 => ?_⟩
  match vs, o1 with
  | [v, u], o1 => exact ⟨W1, τ', v, u, x, y, d, rfl, w1, o1.1, o1.2.1, e3, fun v2 W2 H2 f2 w2 r2 => q v2 W2 H2 (f1.trans f2) w2 r2⟩
theorem ev_b1 {f : B1} {a : IE} {γ : En} {τ τ' : Tape} {d : D} (e : evalE cf (.b1 f a) γ τ = some (d, τ')) : ∃ x, evalE cf a γ τ = some (x, τ') ∧ opB1 f x = some d := by
  simp only [evalE, Option.bind_eq_some_iff, Option.map_eq_some_iff, Prod.mk.injEq, Prod.exists] at e
  obtain ⟨x, τ1, h1, d', h3, rfl, rfl⟩ := e
  exact ⟨x, h1, h3⟩
theorem ev_b2 {f : B2} {a b : IE} {γ : En} {τ τ' : Tape} {d : D} (e : evalE cf (.b2 f a b) γ τ = some (d, τ')) : ∃ x τ1 y, evalE cf a γ τ = some (x, τ1) ∧ evalE cf b γ τ1 = some (y, τ') ∧ opB2 f x y = some d := by
  simp only [evalE, Option.bind_eq_some_iff, Option.map_eq_some_iff, Prod.mk.injEq, Prod.exists] at e
  obtain ⟨x, τ1, h1, y, τ2, h2, d', h3, rfl, rfl⟩ := e
  exact ⟨x, τ1, y, h1, h2, h3⟩
/-- which built-in stands behind a word -/
def b1Fun : B1 → Option (Str × String)
  | .len => some ("len", "len") | .abs => some ("abs", "abs") | .sum => some ("sum", "sum") | .max => some ("max", "max") | .min => some ("min", "min") | .all => some ("all", "all") | .any => some ("any", "any")
  | _ => none
def b1Ty : B1 → Option (Str × String)
  | .tuple => some ("tuple", "tuple") | .list => some ("list", "list") | .int => some ("int", "int")
  | _ => none
def b2Fun : B2 → Str × String
  | .max => ("max", "max") | .min => ("min", "min")
theorem b1_boot {f : B1} {x : Str} {id : String} (h : b1Fun f = some (x, id)) : bootBuiltins x = some (.builtin id) ∧ x ≠ "__name__" ∧ (x == ("__debug__" : Str)) = false := by
  cases f <;> simp only [b1Fun, reduceCtorEq, Option.some.injEq, Prod.mk.injEq] at h <;> obtain ⟨rfl, rfl⟩ := h <;> decide +kernel
theorem b1_bootTy {f : B1} {x : Str} {id : String} (h : b1Ty f = some (x, id)) : bootBuiltins x = some (.type id) ∧ x ≠ "__name__" ∧ (x == ("__debug__" : Str)) = false := by
  cases f <;> simp only [b1Ty, reduceCtorEq, Option.some.injEq, Prod.mk.injEq] at h <;> obtain ⟨rfl, rfl⟩ := h <;> decide +kernel
theorem b2_boot (f : B2) : bootBuiltins (b2Fun f).1 = some (.builtin (b2Fun f).2) ∧ (b2Fun f).1 ≠ "__name__" ∧ ((b2Fun f).1 == ("__debug__" : Str)) = false := by
  cases f <;> decide +kernel
theorem b1_rule (hc : X.calm = true) (hu : X.A.units + 150 < cLine) {f : B1} {x : Str} {id : String} (h : b1Fun f = some (x, id)) : CallR X (.builtin id) (rC1 (opB1 f)) := by
  cases f <;> simp only [b1Fun, reduceCtorEq, Option.some.injEq, Prod.mk.injEq] at h <;> obtain ⟨rfl, rfl⟩ := h
  · exact cr_len
  · exact cr_abs
  · exact cr_sum' hc
  · exact cr_max' hc hu
  · exact cr_min' hc hu
  · exact cr_all' hc
  · exact cr_any' hc
theorem b1_ruleTy {f : B1} {x : Str} {id : String} (h : b1Ty f = some (x, id)) : CallR X (.type id) (rC1 (opB1 f)) := by
  cases f <;> simp only [b1Ty, reduceCtorEq, Option.some.injEq, Prod.mk.injEq] at h <;> obtain ⟨rfl, rfl⟩ := h
  · exact cr_tuple
  · exact cr_list
  · exact cr_int
theorem b2_rule (hc : X.calm = true) (f : B2) : CallR X (.builtin (b2Fun f).2) (rC2 (opB2 f)) := by
  cases f
  · exact cr_max2 hc
  · exact cr_min2 hc
/-- no star among some expressions -/
def unstar : Expr → Bool
  | .Starred .. => false
  | _ => true
theorem star_cons {e : Expr} (h : unstar e = true) (es : List Expr) (env : PySem.Env) : starEach (e :: es) env = (false, eval e env) :: starEach es env := by
  cases e <;> first | rfl | cases h
theorem star_any {es : List Expr} (h : es.all unstar = true) (pos : Pos) (env : PySem.Env) : (backTo pos (starEach es env)).any (·.1) = false := by
  induction es with
  | nil => rfl
  | cons e es ih =>
    rw [List.all_cons, Bool.and_eq_true] at h
    rw [star_cons h.1]
    show (false || (backTo pos (starEach es env)).any (·.1)) = false
    rw [ih h.2]
    rfl
theorem star_nil (env : PySem.Env) : starEach [] env = [] := rfl
theorem je_b1 (hc : X.calm = true) (hu : X.A.units + 150 < cLine) {f : B1} {x : Str} {id : String} (h : b1Fun f = some (x, id)) {e : Expr} {ie : IE} {p pos : Pos} (hg : Gl X x) (hm : X.mg x = none) (hs : unstar e = true) (he : PE X e (tB cf Γ ie)) :
    PE X (.Call (.Name x p) [e] [] pos) (tJ cf Γ (.b1 f ie) .p) :=
  PEw (pe_callB (b1_rule hc hu h) hg hm (b1_boot h).1 (jbs_cons he jbs_nil (star_cons hs [] _)) (b1_boot h).2.1 (b1_boot h).2.2 (star_cons hs [] _) rfl) fun σ H Q q => w_c1 (fun _ _ _ _ e => ev_b1 e) q
theorem je_b1T {f : B1} {x : Str} {id : String} (h : b1Ty f = some (x, id)) {e : Expr} {ie : IE} {p pos : Pos} (hg : Gl X x) (hm : X.mg x = none) (hs : unstar e = true) (he : PE X e (tB cf Γ ie)) :
    PE X (.Call (.Name x p) [e] [] pos) (tJ cf Γ (.b1 f ie) .p) :=
  PEw (pe_callTy (b1_ruleTy h) hg hm (b1_bootTy h).1 (jbs_cons he jbs_nil (star_cons hs [] _)) (b1_bootTy h).2.1 (b1_bootTy h).2.2 (star_cons hs [] _) rfl) fun σ H Q q => w_c1 (fun _ _ _ _ e => ev_b1 e) q
theorem je_b2 (hc : X.calm = true) (f : B2) {e e' : Expr} {ie ie' : IE} {p pos : Pos} (hg : Gl X (b2Fun f).1) (hm : X.mg (b2Fun f).1 = none) (hs : unstar e = true) (hs' : unstar e' = true) (he : PE X e (tB cf Γ ie)) (he' : PE X e' (tB cf Γ ie')) :
    PE X (.Call (.Name (b2Fun f).1 p) [e, e'] [] pos) (tJ cf Γ (.b2 f ie ie') .p) :=
  PEw (pe_callB (b2_rule hc f) hg hm (b2_boot f).1 (jbs_cons he (jbs_cons he' jbs_nil (star_cons hs' [] _)) (star_cons hs [e'] _)) (b2_boot f).2.1 (b2_boot f).2.2 (star_cons hs [e'] _) (star_any (by simp [hs']) _ _)) fun σ H Q q => w_c2 (fun _ _ _ _ e => ev_b2 e) q
/-! ### xs.index(y) -/
theorem ixOf_some {x : D} : ∀ {xs : List D} {j : Nat}, ixOf x xs = some j → ∃ z, xs[j]? = some z ∧ PyData.eqv z x = true ∧ ∀ (m : Nat) (z' : D), m < j → xs[m]? = some z' → PyData.eqv z' x = false
  | [], _, e => by cases e
  | y :: r, j, e => by
    unfold ixOf at e
    split at e
    · rename_i h
      cases e
      exact ⟨y, rfl, h, fun m _ hm => absurd hm (Nat.not_lt_zero m)⟩
    · rename_i h
      obtain ⟨j', e1, rfl⟩ := Option.map_eq_some_iff.mp e
      obtain ⟨z, h1, h2, h3⟩ := ixOf_some e1
      refine ⟨z, h1, h2, fun m z' hm hz => ?_⟩
      cases m with
      | zero =>
        simp only [List.getElem?_cons_zero, Option.some.injEq] at hz
        subst hz
        simpa using h
      | succ m => exact h3 m z' (by omega) (by simpa using hz)
/-- a method of one argument by values -/
def rM1 (f : D → List D → Option D) : V → List V → Hp → VK → Prop := fun x xs H Q => ∃ W τ y dx dy d, xs = [y] ∧ WI W τ H ∧ Opd W H x dx ∧ Opd W H y dy ∧ f dx [dy] = some d ∧ ∀ v W' H', FrE W H W' H' → WI W' τ H' → Rp W'.B v d → Q v H'
theorem mr_index (hu : X.A.units + 150 < cLine) : MtR X "list.index" (rM1 mIndex) := by
  intro pins s σ H x xs v us Q I rx rxs h
  obtain ⟨W, τ, y, dx, dy, d, rfl, w, o1, o2, e, q⟩ := h
  simp only [mIndex, Option.bind_eq_some_iff] at e
  obtain ⟨ds, e1, e2⟩ := e
  split at e2 <;> first | cases e2 | skip
  rename_i hz
  obtain ⟨j, e3, rfl⟩ := Option.map_eq_some_iff.mp e2
  cases listOf_some e1
  obtain ⟨z, h1, h2, h3⟩ := ixOf_some e3
  have hx := o1.dp (K := X.K) w
  have hy := o2.dp (K := X.K) w
  obtain ⟨a, vs, rfl, ha, _, r1, l⟩ := o1.list w
  cases rx
  cases rxs with
  | cons ry rt =>
    rename_i uy ut
    cases rt
    obtain ⟨bs, q1⟩ := Dp.reads I dy y uy hy.1 ry
    have hxs : PyData.canLayAll0 ds = true := lay_list hx.2
    have hroom : X.A.units + 1 + min (PyData.depthAll ds) dy.depth < cLine := by
      have := Nat.min_le_right (PyData.depthAll ds) dy.depth
      omega
    obtain ⟨its, rv, ⟨⟨cls, dd, data, sls⟩, n, ho, hc, hdn, hdt⟩, hlen⟩ := I.list (SqL.of (K := X.K) ha)
    simp only at hc hdt
    subst hc hdt
    obtain ⟨as, h4⟩ := Dp.readsAll I ds _ its (r1.dp (K := X.K) w.sub) rv
    have hn : its.length = ds.length := SeqAt.ReadsAll.length ds its as h4
    have hmap : its.map (SeqAt.readOf s.heap) = ds := SeqAt.readsAll_map ds its as hxs h4
    have hvl := rv.length
    have hsl := sizeLine_eq
    obtain ⟨hjd, _⟩ := List.getElem?_eq_some_iff.mp h1
    have hjl : j < its.length := by omega
    have hj : j < its.toArray.size := by simpa using hjl
    have at_ : ∀ (m : Nat) (hm : m < its.toArray.size) (z' : PyData), ds[m]? = some z' → SeqAt.readOf s.heap its.toArray[m] = z' := by
      intro m hm z' hz'
      have hml : m < its.length := by simpa using hm
      rw [← hmap, List.getElem?_map, List.getElem?_eq_getElem hml] at hz'
      have e1 : SeqAt.readOf s.heap its[m] = z' := Option.some.inj (show some (SeqAt.readOf s.heap its[m]) = some z' from hz')
      simpa using e1
    refine call_meets PySem.F.slot_list_index ⟨_, ho, rfl⟩ PySem.F.entry_list_index (PySem.F.args_list_index_2 _ _)
      (SeqAt.list_indexAt a its.toArray n dd sls uy (fun u => PyData.eqv (SeqAt.readOf s.heap u) dy) j hj (by omega) ?_ ?_) ⟨ho, SeqAt.items_eqAt (vs := its.toArray) (show ReadsAll s.heap its.toArray.toList ds as from h4) q1 hxs hy.2 hroom, ?_⟩
    · show PyData.eqv (SeqAt.readOf s.heap its.toArray[j]) dy = true
      rw [at_ j hj z h1]
      exact h2
    · intro m hm hmj
      have hmd : m < ds.length := by omega
      have hz' : ds[m]? = some ds[m] := List.getElem?_eq_getElem hmd
      show PyData.eqv (SeqAt.readOf s.heap its.toArray[m]) dy = false
      rw [at_ m hm _ hz']
      exact h3 m _ hmj hz'
    · exact ⟨.int (j : Nat), H, I.tok _, ⟨_, rfl⟩, q _ W H (.refl W H) w (.int _)⟩
/-- the receiver is no super() -/
def plainBase : Expr → Bool
  | .Call (.Name _ _) [] [] _ => false
  | _ => true
theorem base_of {o : Expr} (h : plainBase o = true) (m : Str) (env : PySem.Env) (whole : Sem Value) : attributeBase o m env whole = whole := by
  unfold attributeBase
  split
  · cases h
  · rfl
theorem few_of {e : Expr} {es : List Expr} {pos : Pos} {env : PySem.Env} (h : unstar e = true) (hs : es.all unstar = true) (hl : es.length < 20) :
    ((backTo pos (starEach (e :: es) env)).all (fun x => !x.1) && (backToKw pos (keywordEach [] env)).all (fun x => x.1.isSome) && decide ((e :: es).length + ([] : List Keyword).length + (if ([] : List Keyword).isEmpty then 0 else 1) < 30)) = true := by
  have a1 : (backTo pos (starEach (e :: es) env)).all (fun x => !x.1) = true := by
    have := star_any (es := e :: es) (by rw [List.all_cons, h, hs]; rfl) pos env
    rw [List.any_eq_false] at this
    rw [List.all_eq_true]
    intro x hx
    simpa using this x hx
  rw [a1]
  have a2 : (backToKw pos (keywordEach [] env)).all (fun x => x.1.isSome) = true := rfl
  rw [a2, Bool.true_and, Bool.true_and]
  refine decide_eq_true ?_
  show es.length + 1 + 0 + 0 < 30
  omega
theorem opd_tyL {W : Wd} {τ : Tape} {H : Hp} {v : V} {ds : List D} (w : WI W τ H) (o : Opd W H v (.list ds)) : tyV X.K "list" v H := by
  obtain ⟨a, vs, rfl, h1, _⟩ := o.list w
  exact Or.inl ⟨rfl, _, SqL.of h1⟩
theorem ev_mth {m : Mt} {a b : IE} {γ : En} {τ τ' : Tape} {d : D} (e : evalE cf (.mth m a [b]) γ τ = some (d, τ')) : ∃ x τ1 y, evalE cf a γ τ = some (x, τ1) ∧ evalE cf b γ τ1 = some (y, τ') ∧ opMth m x [y] = some d := by
  simp only [evalE, evalEs, Option.bind_eq_some_iff, Option.map_eq_some_iff, Prod.mk.injEq, Prod.exists] at e
  obtain ⟨x, τ1, h1, ys, τ2, ⟨y, τ3, h2, _, _, ⟨rfl, rfl⟩, rfl, rfl⟩, d', h3, rfl, rfl⟩ := e
  exact ⟨x, τ1, y, h1, h2, h3⟩
theorem je_index (hu : X.A.units + 150 < cLine) {o e : Expr} {io ie : IE} {apos cpos : Pos} (ho : PE X o (tB cf Γ io)) (he : PE X e (tB cf Γ ie)) (hb : plainBase o = true) (hs : unstar e = true) (hl : (apos.endLine == cpos.line) = true) :
    PE X (.Call (.Attribute o "index" apos) [e] [] cpos) (tJ cf Γ (.mth .index io [ie]) .p) :=
  PEw (pe_bm PySem.F.plainAttrs_list PySem.F.slot_list_index PySem.F.type_list_index (mr_index hu) ho (jbs_cons he jbs_nil (star_cons hs [] _)) (base_of hb _ _ _) (few_of hs rfl (by decide)) hl (star_cons hs [] _) rfl) fun σ H Q ⟨W, fp, γ, τ, d, τ', w, sl, ev, q⟩ => by
    obtain ⟨x, τ1, y, e1, e2, e3⟩ := ev_mth ev
    refine ⟨W, fp, γ, τ, x, τ1, w, sl, e1, fun v W1 H1 f1 w1 o1 => ⟨?_, W1, fp, γ, τ1, [y], τ', w1, sl.mono f1, by simp only [evalEs, e2, Option.bind_some, Option.map_some], fun vs W2 H2 f2 w2 o2 => ?_⟩⟩
    · have e3 : mIndex x [y] = some d := e3
      simp only [mIndex, Option.bind_eq_some_iff] at e3
      obtain ⟨ds, e4, _⟩ := e3
      cases listOf_some e4
      exact opd_tyL w1 o1
    · match vs, o2 with
      | [u], o2 => exact ⟨W2, τ', u, x, y, d, rfl, w2, o1.mono f2, o2.1, e3, fun v3 W3 H3 f3 w3 r3 => q v3 W3 H3 ((f1.trans f2).trans f3) w3 r3⟩
end
end Ev
set_option Elab.async false
set_option linter.all false
set_option maxRecDepth 100000
set_option autoImplicit false
/-! Ev7: what is walked; targets. -/
namespace Ev
open PySem PySem.Spec PyProof.Rows L2
/-- the iterator J yields the data ds, one behind the other, wherever P holds -/
def ItOk (P : Wd → Hp → Prop) (J : It) (ds : List D) : Prop := ∀ W τ H, WI W τ H → P W H → ∀ i : Nat,
  (∀ d, ds[i]? = some d → J.go i H ∧ ∀ x H', J.yld i H x H' → ∃ W', FrE W H W' H' ∧ WI W' τ H' ∧ Rp W'.B x d) ∧ (ds.length ≤ i → J.stop i H)
theorem ItOk.mono {P P' : Wd → Hp → Prop} {J : It} {ds : List D} (h : ItOk P J ds) (hp : ∀ W H, P' W H → P W H) : ItOk P' J ds := fun W τ H w p => h W τ H w (hp W H p)
section
variable (cf : CF) (Γ : List Ty)
/-- what is walked stays as it is while what was frozen at its start is -/
def tI (k : IK) (ies : List IE) : TI := fun σ H R => ∃ W fp γ τ ds τ' xs, WI W τ H ∧ SL W fp Γ γ σ H ∧ evalEs cf ies γ τ = some (ds, τ') ∧ items k ds = some xs ∧
  ∀ J W' H', FrE W H W' H' → WI W' τ' H' → ItOk (fun W2 _ => Same W'.B W2.B) J xs → (lenOk k xs = true → xs.length ≤ sizeLine) → R J H'
/-- .. while nothing of the own objects changes -/
def tIB (k : IK) (ies : List IE) : TI := fun σ H R => ∃ W fp γ τ ds τ' xs, WI W τ H ∧ SL W fp Γ γ σ H ∧ evalEs cf ies γ τ = some (ds, τ') ∧ items k ds = some xs ∧
  ∀ J W' H', FrE W H W' H' → WI W' τ' H' → ItOk (fun W2 H2 => FrE W' H' W2 H2) J xs → (lenOk k xs = true → xs.length ≤ sizeLine) → R J H'
end
section
variable {cf : CF} {Γ : List Ty} {X : Cx}
theorem pi_weak {tg e : Expr} {k : IK} {ies : List IE} (h : PI X tg e (tI cf Γ k ies)) : PI X tg e (tIB cf Γ k ies) :=
  PIw h fun σ H R ⟨W, fp, γ, τ, ds, τ', xs, w, sl, e1, e2, q⟩ => ⟨W, fp, γ, τ, ds, τ', xs, w, sl, e1, e2, fun J W' H' f w' o l => q J W' H' f w' (o.mono fun W2 H2 f2 => f2.B) l⟩
/-- a list or a tuple -/
def iSeq (K : PySem.W.Frag) (tl : TE) : TI := fun σ H R => tl σ H fun x H1 => ∃ a, x = .ref a ∧ (((∃ xs, SqL K H1 a xs) ∧ R (Itl K a) H1) ∨ ((∃ xs, SqT K H1 a xs) ∧ R (Itt K a) H1))
theorem pi_seq {tg l : Expr} {tl : TE} (hl : PE X l tl) : PI X tg l (iSeq X.K tl) := by
  refine ⟨fun pins s σ H R I h => ?_⟩
  refine thn (hl.run pins s σ H _ I h) fun v s1 ⟨x, H1, I1, r1, q1⟩ => ?_
  obtain ⟨a, e, q⟩ := q1
  subst e
  cases r1
  rcases q with ⟨⟨xs, hq⟩, q⟩ | ⟨⟨xs, hq⟩, q⟩
  · obtain ⟨its, rv, p, hz⟩ := I1.list hq
    refine wpAny_pyIter_list p.isList ?_
    refine ⟨s1.heap.objs.size, [s1.heap.objs.size], _, _, H1, rfl, I1.kept (t' := s1.toks) fun b o e => Heap.get?_push_of_some _ e, turn_list a _, ⟨_, Heap.get?_push_size _ rfl, rfl, rfl⟩, fun b hb => ?_, q⟩
    have e : b = s1.heap.objs.size := by simpa using hb
    subst e
    exact I1.fpOk (Nat.le_refl _) (I1.hok.fresh (Nat.le_refl _))
  · obtain ⟨its, rv, p, hz⟩ := I1.tuple hq
    refine wpAny_pyIter_tuple (show s1.heap.IsTuple a its.toArray from p) ?_
    refine ⟨s1.heap.objs.size, [s1.heap.objs.size], _, _, H1, rfl, I1.kept (t' := s1.toks) fun b o e => Heap.get?_push_of_some _ e, turn_tuple a _, ⟨_, Heap.get?_push_size _ rfl, rfl, rfl⟩, fun b hb => ?_, q⟩
    have e : b = s1.heap.objs.size := by simpa using hb
    subst e
    exact I1.fpOk (Nat.le_refl _) (I1.hok.fresh (Nat.le_refl _))
/-- a list at a, frozen from W1 on, or standing -/
theorem itl_ok {K : PySem.W.Frag} {P : Wd → Hp → Prop} {a : Addr} {vs : List V} {ds : List D} (h : ∀ W τ H, WI W τ H → P W H → H a = some (.lst vs) ∧ RpA W.B vs ds) : ItOk P (Itl K a) ds := by
  intro W τ H w p i
  obtain ⟨h1, r⟩ := h W τ H w p
  refine ⟨fun d hd => ?_, fun hl => ⟨vs, SqL.of h1, by rw [r.length]; exact hl⟩⟩
  obtain ⟨v, hv, rv⟩ := r.get hd
  refine ⟨⟨vs, v, SqL.of h1, hv⟩, fun x H' hy => ?_⟩
  obtain ⟨rfl, hx⟩ := hy
  have e := hx vs (SqL.of h1)
  rw [hv] at e
  cases e
  exact ⟨W, .refl W _, w, rv⟩
theorem itt_ok {K : PySem.W.Frag} {P : Wd → Hp → Prop} {a : Addr} {vs : List V} {ds : List D} (h : ∀ W τ H, WI W τ H → P W H → H a = some (.tup vs) ∧ RpA W.B vs ds) : ItOk P (Itt K a) ds := by
  intro W τ H w p i
  obtain ⟨h1, r⟩ := h W τ H w p
  refine ⟨fun d hd => ?_, fun hl => ⟨vs, SqT.of h1, by rw [r.length]; exact hl⟩⟩
  obtain ⟨v, hv, rv⟩ := r.get hd
  refine ⟨⟨vs, v, SqT.of h1, hv⟩, fun x H' hy => ?_⟩
  obtain ⟨rfl, hx⟩ := hy
  have e := hx vs (SqT.of h1)
  rw [hv] at e
  cases e
  exact ⟨W, .refl W _, w, rv⟩
theorem evs_one {ie : IE} {γ : En} {τ τ' : Tape} {ds : List D} (e : evalEs cf [ie] γ τ = some (ds, τ')) : ∃ d, ds = [d] ∧ evalE cf ie γ τ = some (d, τ') := by
  obtain ⟨d, τ1, ds', e1, e2, rfl⟩ := evs_cons e
  cases evs_nil e2
  exact ⟨d, rfl, e1⟩
theorem js_seq {tg e : Expr} {ie : IE} (h : PE X e (tJ cf Γ ie .p)) : PI X tg e (tI cf Γ .seq [ie]) :=
  PIw (pi_seq h) fun σ H R ⟨W, fp, γ, τ, ds, τ', xs, w, sl, e1, e2, q⟩ => by
    obtain ⟨d, rfl, e3⟩ := evs_one e1
    refine ⟨W, fp, γ, τ, d, τ', w, sl, e3, fun v W1 H1 f1 w1 r1 => ?_⟩
    rcases seqOf_some (show seqOf d = some xs from e2) with rfl | rfl
    · cases r1 with
      | @lst a vs _ ha ra la =>
        exact ⟨a, rfl, .inl ⟨⟨vs, SqL.of (w1.sub _ _ ha)⟩, q _ W1 H1 f1 w1 (itl_ok (vs := vs) fun W2 τ2 H2 w2 p => ⟨w2.sub _ _ (p _ _ ha), ra.mono p⟩) fun _ => la⟩⟩
    · cases r1 with
      | @tup a vs _ ha ra la =>
        exact ⟨a, rfl, .inr ⟨⟨vs, SqT.of (w1.sub _ _ ha)⟩, q _ W1 H1 f1 w1 (itt_ok (vs := vs) fun W2 τ2 H2 w2 p => ⟨w2.sub _ _ (p _ _ ha), ra.mono p⟩) fun _ => la⟩⟩
theorem jb_seq {tg e : Expr} {ie : IE} (h : PE X e (tB cf Γ ie)) : PI X tg e (tIB cf Γ .seq [ie]) :=
  PIw (pi_seq h) fun σ H R ⟨W, fp, γ, τ, ds, τ', xs, w, sl, e1, e2, q⟩ => by
    obtain ⟨d, rfl, e3⟩ := evs_one e1
    refine ⟨W, fp, γ, τ, d, τ', w, sl, e3, fun v W1 H1 f1 w1 o1 => ?_⟩
    rcases seqOf_some (show seqOf d = some xs from e2) with rfl | rfl
    · obtain ⟨a, vs, rfl, ha, na, ra, la⟩ := o1.list w1
      exact ⟨a, rfl, .inl ⟨⟨vs, SqL.of ha⟩, q _ W1 H1 f1 w1 (itl_ok (vs := vs) fun W2 τ2 H2 w2 p => ⟨p.hp _ _ ha na, ra.mono p.B⟩) fun _ => la⟩⟩
    · obtain ⟨a, vs, rfl, ha, ra, la⟩ := o1.tup
      exact ⟨a, rfl, .inr ⟨⟨vs, SqT.of (w1.sub _ _ ha)⟩, q _ W1 H1 f1 w1 (itt_ok (vs := vs) fun W2 τ2 H2 w2 p => ⟨w2.sub _ _ (p.B _ _ ha), ra.mono p.B⟩) fun _ => la⟩⟩
theorem itR1_some {ds xs : List D} (e : itR1 ds = some xs) : ∃ n : Int, ds = [.int n] ∧ (-(2 ^ 62) ≤ n ∧ n < 2 ^ 62) ∧ xs = rangeD 0 n.toNat := by
  unfold itR1 at e
  split at e <;> first | cases e | skip
  split at e <;> first | cases e | skip
  rename_i hz
  exact ⟨_, rfl, by omega, rfl⟩
theorem itR2_some {ds xs : List D} (e : itR2 ds = some xs) : ∃ a b : Int, ds = [.int a, .int b] ∧ (-(2 ^ 62) ≤ a ∧ a < 2 ^ 62 ∧ -(2 ^ 62) ≤ b ∧ b < 2 ^ 62) ∧ xs = rangeD a (b - a).toNat := by
  unfold itR2 at e
  split at e <;> first | cases e | skip
  split at e <;> first | cases e | skip
  rename_i hz
  exact ⟨_, _, rfl, by omega, rfl⟩
theorem itEnum_some {ds xs : List D} (e : itEnum ds = some xs) : ∃ ys, ds = [.list ys] ∧ xs = ys.zipIdx.map fun p => .tuple [.int (p.2 : Nat), p.1] := by
  unfold itEnum at e
  split at e <;> first | cases e | skip
  exact ⟨_, rfl, rfl⟩
theorem itZip_some {ds xs : List D} (e : itZip ds = some xs) : ∃ ys zs, (ds = [.list ys, .list zs] ∨ ds = [.tuple ys, .tuple zs]) ∧ xs = (ys.zip zs).map fun p => .tuple [p.1, p.2] := by
  unfold itZip at e
  split at e <;> first | cases e | skip
  · exact ⟨_, _, .inl rfl, rfl⟩
  · exact ⟨_, _, .inr rfl, rfl⟩
/-! ### ranges -/
theorem rangeD_get {a : Int} {n i : Nat} {d : D} (h : (rangeD a n)[i]? = some d) : i < n ∧ d = .int (a + (i : Nat)) := by
  unfold rangeD at h
  rw [List.getElem?_map, Option.map_eq_some_iff] at h
  obtain ⟨j, h1, rfl⟩ := h
  obtain ⟨h2, h3⟩ := List.getElem?_eq_some_iff.mp h1
  rw [List.getElem_range] at h3
  rw [List.length_range] at h2
  subst h3
  exact ⟨h2, rfl⟩
theorem rangeD_len (a : Int) (n : Nat) : (rangeD a n).length = n := by
  unfold rangeD
  rw [List.length_map, List.length_range]
theorem itr_ok {P : Wd → Hp → Prop} (a : Int) (n : Nat) : ItOk P (Itr a n) (rangeD a n) := by
  intro W τ H w p i
  refine ⟨fun d hd => ?_, fun hl => by rw [rangeD_len] at hl; exact hl⟩
  obtain ⟨h1, rfl⟩ := rangeD_get hd
  refine ⟨h1, fun x H' hy => ?_⟩
  obtain ⟨rfl, rfl⟩ := hy
  exact ⟨W, .refl W _, w, .int _⟩
theorem lenOk_r {xs : List D} (h : decide (xs.length ≤ sizeLine) = true) : xs.length ≤ sizeLine := of_decide_eq_true h
theorem js_r1 {tg a : Expr} {ia : IE} {p pos : Pos} (hg : Gl X "range") (hm : X.mg "range" = none) (hs : unstar a = true) (h : PE X a (tB cf Γ ia)) : PI X tg (.Call (.Name "range" p) [a] [] pos) (tI cf Γ .r1 [ia]) :=
  PIw (pi_range1 hg hm (jbs_cons h jbs_nil (star_cons hs [] _)) (star_cons hs [] _)) fun σ H R ⟨W, fp, γ, τ, ds, τ', xs, w, sl, e1, e2, q⟩ => by
    obtain ⟨d, rfl, e3⟩ := evs_one e1
    obtain ⟨n, e4, hz, rfl⟩ := itR1_some e2
    cases e4
    refine ⟨W, fp, γ, τ, [.int n], τ', w, sl, e1, fun vs W1 H1 f1 w1 o1 => ?_⟩
    match vs, o1 with
    | [v], o1 =>
      cases o1.1.int
      exact ⟨_, rfl, hz.1, hz.2, q _ W1 H1 f1 w1 (itr_ok 0 _) lenOk_r⟩
theorem js_r2 {tg a b : Expr} {ia ib : IE} {p pos : Pos} (hg : Gl X "range") (hm : X.mg "range" = none) (hs : unstar a = true) (hs' : unstar b = true) (h : PE X a (tB cf Γ ia)) (h' : PE X b (tB cf Γ ib)) : PI X tg (.Call (.Name "range" p) [a, b] [] pos) (tI cf Γ .r2 [ia, ib]) :=
  PIw (pi_range2 hg hm (jbs_cons h (jbs_cons h' jbs_nil (star_cons hs' [] _)) (star_cons hs [b] _)) (by rw [star_cons hs, star_cons hs']; rfl) (star_cons hs' [] _)) fun σ H R ⟨W, fp, γ, τ, ds, τ', xs, w, sl, e1, e2, q⟩ => by
    obtain ⟨d, τ1, ds', e3, e4, rfl⟩ := evs_cons e1
    obtain ⟨d', rfl, e5⟩ := evs_one e4
    obtain ⟨n, m, e4, hz, rfl⟩ := itR2_some e2
    cases e4
    refine ⟨W, fp, γ, τ, [.int n, .int m], τ', w, sl, e1, fun vs W1 H1 f1 w1 o1 => ?_⟩
    match vs, o1 with
    | [v, u], o1 =>
      cases o1.1.int
      cases o1.2.1.int
      exact ⟨_, _, rfl, hz, q _ W1 H1 f1 w1 (itr_ok _ _) lenOk_r⟩
/-! ### enumerate, zip -/
theorem enum_get {ds : List D} {i : Nat} {d : D} (h : (ds.zipIdx.map fun p => PyData.tuple [.int (p.2 : Nat), p.1])[i]? = some d) : ∃ x, ds[i]? = some x ∧ d = .tuple [.int (i : Nat), x] := by
  rw [List.getElem?_map, Option.map_eq_some_iff] at h
  obtain ⟨p, h1, rfl⟩ := h
  rw [List.getElem?_zipIdx, Option.map_eq_some_iff] at h1
  obtain ⟨x, h2, rfl⟩ := h1
  exact ⟨x, h2, by simp⟩
theorem two_line : (2 : Nat) ≤ sizeLine := by rw [sizeLine_eq]; decide
theorem ite_ok {K : PySem.W.Frag} {P : Wd → Hp → Prop} {a : Addr} {vs : List V} {ds : List D} (h : ∀ W τ H, WI W τ H → P W H → H a = some (.lst vs) ∧ RpA W.B vs ds) : ItOk P (Ite K a) (ds.zipIdx.map fun p => PyData.tuple [.int (p.2 : Nat), p.1]) := by
  intro W τ H w p i
  obtain ⟨h1, r⟩ := h W τ H w p
  refine ⟨fun d hd => ?_, fun hl => ⟨vs, SqL.of h1, by rw [r.length]; simpa using hl⟩⟩
  obtain ⟨y, hy, rfl⟩ := enum_get hd
  obtain ⟨v, hv, rv⟩ := r.get hy
  refine ⟨⟨vs, v, SqL.of h1, hv⟩, fun x H' hy => ?_⟩
  obtain ⟨T, x', rfl, hT, rfl, hx⟩ := hy
  have e := hx vs (SqL.of h1)
  rw [hv] at e
  cases e
  obtain ⟨f, w'⟩ := new_obj w (.tup [.int (i : Nat), v]) hT
  exact ⟨_, f, w', .tup upd_same (.cons (.int _) (.cons (rv.mono f.B) .nil)) two_line⟩
theorem w_enum {tl : TE} {P : Wd → Hp → Wd → Hp → Prop} {ie : IE} : True := trivial
theorem js_enum {elts : List Expr} {kk : Nat} {tpos : Pos} {e : Expr} {ie : IE} {p pos : Pos} (hg : Gl X "enumerate") (hm : X.mg "enumerate" = none) (hs : unstar e = true) (h : PE X e (tJ cf Γ ie .p)) :
    PI X (.Tuple elts kk tpos) (.Call (.Name "enumerate" p) [e] [] pos) (tI cf Γ .enum [ie]) :=
  PIw (pi_enum hg hm (jps_cons h jps_nil (star_cons hs [] _)) (star_cons hs [] _)) fun σ H R ⟨W, fp, γ, τ, ds, τ', xs, w, sl, e1, e2, q⟩ => by
    obtain ⟨d, rfl, e3⟩ := evs_one e1
    obtain ⟨ys, e4, rfl⟩ := itEnum_some e2
    cases e4
    refine ⟨W, fp, γ, τ, [.list ys], τ', w, sl, e1, fun vs W1 H1 f1 w1 r1 => ?_⟩
    cases r1 with
    | cons ra rt =>
      cases rt
      cases ra with
      | @lst a vs _ ha ra la =>
        exact ⟨a, vs, rfl, SqL.of (w1.sub _ _ ha), q _ W1 H1 f1 w1 (ite_ok (vs := vs) fun W2 τ2 H2 w2 p => ⟨w2.sub _ _ (p _ _ ha), ra.mono p⟩) fun _ => by simpa using la⟩
theorem jb_enum {elts : List Expr} {kk : Nat} {tpos : Pos} {e : Expr} {ie : IE} {p pos : Pos} (hg : Gl X "enumerate") (hm : X.mg "enumerate" = none) (hs : unstar e = true) (h : PE X e (tB cf Γ ie)) :
    PI X (.Tuple elts kk tpos) (.Call (.Name "enumerate" p) [e] [] pos) (tIB cf Γ .enum [ie]) :=
  PIw (pi_enum hg hm (jbs_cons h jbs_nil (star_cons hs [] _)) (star_cons hs [] _)) fun σ H R ⟨W, fp, γ, τ, ds, τ', xs, w, sl, e1, e2, q⟩ => by
    obtain ⟨d, rfl, e3⟩ := evs_one e1
    obtain ⟨ys, e4, rfl⟩ := itEnum_some e2
    cases e4
    refine ⟨W, fp, γ, τ, [.list ys], τ', w, sl, e1, fun vs W1 H1 f1 w1 o1 => ?_⟩
    match vs, o1 with
    | [v], o1 =>
      obtain ⟨a, vs, rfl, ha, na, ra, la⟩ := o1.1.list w1
      exact ⟨a, vs, rfl, SqL.of ha, q _ W1 H1 f1 w1 (ite_ok (vs := vs) fun W2 τ2 H2 w2 p => ⟨p.hp _ _ ha na, ra.mono p.B⟩) fun _ => by simpa using la⟩
theorem zip_get {ds es : List D} {i : Nat} {d : D} (h : ((ds.zip es).map fun p => PyData.tuple [p.1, p.2])[i]? = some d) : ∃ x y, ds[i]? = some x ∧ es[i]? = some y ∧ d = .tuple [x, y] := by
  rw [List.getElem?_map, Option.map_eq_some_iff] at h
  obtain ⟨p, h1, rfl⟩ := h
  rw [List.getElem?_zip_eq_some] at h1
  exact ⟨p.1, p.2, h1.1, h1.2, rfl⟩
theorem itz_ok {K : PySem.W.Frag} {P : Wd → Hp → Prop} {a b : Addr} {vs ws : List V} {ds es : List D} (h : ∀ W τ H, WI W τ H → P W H → (H a = some (.lst vs) ∧ RpA W.B vs ds) ∧ H b = some (.lst ws) ∧ RpA W.B ws es) : ItOk P (Itz K a b) ((ds.zip es).map fun p => PyData.tuple [p.1, p.2]) := by
  intro W τ H w p i
  obtain ⟨⟨h1, r⟩, h2, r2⟩ := h W τ H w p
  refine ⟨fun d hd => ?_, fun hl => ⟨vs, ws, SqL.of h1, SqL.of h2, by rw [r.length, r2.length]; simp only [List.length_map, List.length_zip] at hl; omega⟩⟩
  obtain ⟨x, y, hx, hy, rfl⟩ := zip_get hd
  obtain ⟨v, hv, rv⟩ := r.get hx
  obtain ⟨u, hu, ru⟩ := r2.get hy
  refine ⟨⟨vs, ws, v, u, SqL.of h1, SqL.of h2, hv, hu⟩, fun x H' hy => ?_⟩
  obtain ⟨T, x', y', rfl, hT, rfl, hx, hy⟩ := hy
  have e := hx vs (SqL.of h1)
  rw [hv] at e
  cases e
  have e := hy ws (SqL.of h2)
  rw [hu] at e
  cases e
  obtain ⟨f, w'⟩ := new_obj w (.tup [v, u]) hT
  exact ⟨_, f, w', .tup upd_same (.cons (rv.mono f.B) (.cons (ru.mono f.B) .nil)) two_line⟩
theorem itzT_ok {K : PySem.W.Frag} {P : Wd → Hp → Prop} {a b : Addr} {vs ws : List V} {ds es : List D} (h : ∀ W τ H, WI W τ H → P W H → (H a = some (.tup vs) ∧ RpA W.B vs ds) ∧ H b = some (.tup ws) ∧ RpA W.B ws es) : ItOk P (RZ.ItzT K a b) ((ds.zip es).map fun p => PyData.tuple [p.1, p.2]) := by
  intro W τ H w p i
  obtain ⟨⟨h1, r⟩, h2, r2⟩ := h W τ H w p
  refine ⟨fun d hd => ?_, fun hl => ⟨vs, ws, SqT.of h1, SqT.of h2, by rw [r.length, r2.length]; simp only [List.length_map, List.length_zip] at hl; omega⟩⟩
  obtain ⟨x, y, hx, hy, rfl⟩ := zip_get hd
  obtain ⟨v, hv, rv⟩ := r.get hx
  obtain ⟨u, hu, ru⟩ := r2.get hy
  refine ⟨⟨vs, ws, v, u, SqT.of h1, SqT.of h2, hv, hu⟩, fun x H' hy => ?_⟩
  obtain ⟨T, x', y', rfl, hT, rfl, hx, hy⟩ := hy
  have e := hx vs (SqT.of h1)
  rw [hv] at e
  cases e
  have e := hy ws (SqT.of h2)
  rw [hu] at e
  cases e
  obtain ⟨f, w'⟩ := new_obj w (.tup [v, u]) hT
  exact ⟨_, f, w', .tup upd_same (.cons (rv.mono f.B) (.cons (ru.mono f.B) .nil)) two_line⟩
theorem js_zip {elts : List Expr} {kk : Nat} {tpos : Pos} {e e' : Expr} {ie ie' : IE} {p pos : Pos} (hg : Gl X "zip") (hm : X.mg "zip" = none) (hs : unstar e = true) (hs' : unstar e' = true) (h : PE X e (tJ cf Γ ie .p)) (h' : PE X e' (tJ cf Γ ie' .p)) :
    PI X (.Tuple elts kk tpos) (.Call (.Name "zip" p) [e, e'] [] pos) (tI cf Γ .zip [ie, ie']) :=
  PIw (RZ.pi_zipA hg hm (jps_cons h (jps_cons h' jps_nil (star_cons hs' [] _)) (star_cons hs [e'] _)) (star_cons hs [e'] _) (star_any (by simp [hs']) _ _)) fun σ H R ⟨W, fp, γ, τ, ds, τ', xs, w, sl, e1, e2, q⟩ => by
    obtain ⟨d, τ1, ds', e3, e4, rfl⟩ := evs_cons e1
    obtain ⟨d', rfl, e5⟩ := evs_one e4
    obtain ⟨ys, zs, e4, rfl⟩ := itZip_some e2
    rcases e4 with e4 | e4
    · cases e4
      refine ⟨W, fp, γ, τ, _, τ', w, sl, e1, fun vs W1 H1 f1 w1 r1 => ?_⟩
      cases r1 with
      | cons ra rt =>
        cases rt with
        | cons rb rt =>
          cases rt
          cases ra with
          | @lst a vs _ ha ra la =>
            cases rb with
            | @lst b ws _ hb rb lb =>
              exact ⟨a, b, vs, ws, rfl, .inl ⟨SqL.of (w1.sub _ _ ha), SqL.of (w1.sub _ _ hb), q _ W1 H1 f1 w1 (itz_ok (vs := vs) (ws := ws) fun W2 τ2 H2 w2 p => ⟨⟨w2.sub _ _ (p _ _ ha), ra.mono p⟩, w2.sub _ _ (p _ _ hb), rb.mono p⟩) fun _ => by simp only [List.length_map, List.length_zip]; omega⟩⟩
    · cases e4
      refine ⟨W, fp, γ, τ, _, τ', w, sl, e1, fun vs W1 H1 f1 w1 r1 => ?_⟩
      cases r1 with
      | cons ra rt =>
        cases rt with
        | cons rb rt =>
          cases rt
          cases ra with
          | @tup a vs _ ha ra la =>
            cases rb with
            | @tup b ws _ hb rb lb =>
              exact ⟨a, b, vs, ws, rfl, .inr ⟨SqT.of (w1.sub _ _ ha), SqT.of (w1.sub _ _ hb), q _ W1 H1 f1 w1 (itzT_ok (vs := vs) (ws := ws) fun W2 τ2 H2 w2 p => ⟨⟨w2.sub _ _ (p _ _ ha), ra.mono p⟩, w2.sub _ _ (p _ _ hb), rb.mono p⟩) fun _ => by simp only [List.length_map, List.length_zip]; omega⟩⟩
end
end Ev
set_option Elab.async false
set_option linter.all false
set_option maxRecDepth 100000
set_option autoImplicit false
/-! Ev8: targets, comprehensions. -/
namespace Ev
open PySem PySem.Spec PyProof.Rows L2
/-! ### slots set -/
theorem ty_set {Γ : List Ty} {i j : Nat} {t : Ty} : ty (Γ.set i t) j = if j = i ∧ i < Γ.length then t else ty Γ j := by
  unfold ty
  rw [List.getD_eq_getElem?_getD, List.getD_eq_getElem?_getD]
  by_cases e : j = i
  · subst e
    by_cases h : j < Γ.length
    · rw [List.getElem?_set_self h, if_pos ⟨rfl, h⟩]
      rfl
    · rw [if_neg (fun z => h z.2), List.set_eq_of_length_le (by omega)]
  · rw [List.getElem?_set_ne (Ne.symm e), if_neg (fun z => e z.1)]
theorem optD_set {α : Type} {l : List (Option α)} {i j : Nat} {x : Option α} : (l.set i x).getD j none = if j = i ∧ i < l.length then x else l.getD j none := by
  rw [List.getD_eq_getElem?_getD, List.getD_eq_getElem?_getD]
  by_cases e : j = i
  · subst e
    by_cases h : j < l.length
    · rw [List.getElem?_set_self h, if_pos ⟨rfl, h⟩]
      rfl
    · rw [if_neg (fun z => h z.2), List.set_eq_of_length_le (by omega)]
  · rw [List.getElem?_set_ne (Ne.symm e), if_neg (fun z => e z.1)]
theorem rd_set {γ : En} {i j : Nat} {x : Option D} : rd (γ.set i x) j = if j = i ∧ i < γ.length then x else rd γ j := optD_set
/-- slots emptied -/
def off (fp : Nat → List Addr) (i : Nat) : Nat → List Addr := fun j => if j = i then [] else fp j
theorem off_mem {fp : Nat → List Addr} {i j : Nat} {a : Addr} (h : a ∈ off fp i j) : a ∈ fp j ∧ j ≠ i := by
  unfold off at h
  split at h
  · cases h
  · rename_i e; exact ⟨h, e⟩
theorem off_sub {fp : Nat → List Addr} {i j : Nat} : (fp j).Nodup → (off fp i j).Nodup := fun h => by
  unfold off
  split
  · exact List.nodup_nil
  · exact h
theorem Slot.un {W : Wd} {H : Hp} {g : Option D} {s : Option V} : Slot W H .u g s [] := rfl
theorem ty_out {Γ : List Ty} {i : Nat} (h : ¬ i < Γ.length) : ty Γ i = .u := by
  unfold ty
  rw [List.getD_eq_getElem?_getD, List.getElem?_eq_none (by omega)]
  rfl
/-- a slot takes a frozen datum -/
theorem SL.setP {W : Wd} {fp : Nat → List Addr} {Γ : List Ty} {γ : En} {σ : L2.St} {H : Hp} (h : SL W fp Γ γ σ H) (i : Nat) {t : Ty} {v : V} {d : D} (ht : t = .p ∨ t = .pK ∨ t = .pT) (r : Jv W t v d) : SL W (off fp i) (Γ.set i t) (γ.set i (some d)) (σ.set i (some v)) H := by
  refine ⟨fun j => ?_, fun j => off_sub (h.nd j), fun j k hjk a ha hb => h.dj j k hjk a (off_mem ha).1 (off_mem hb).1, by rw [List.length_set, List.length_set]; exact h.len, by rw [List.length_set, List.length_set]; exact h.lenG⟩
  rw [ty_set, rd_set, optD_set]
  have e1 : γ.length = Γ.length := h.len.trans h.lenG.symm
  rw [e1, ← h.lenG]
  by_cases c : j = i ∧ i < Γ.length
  · rw [if_pos c, if_pos c, if_pos c]
    have : off fp i j = [] := by unfold off; rw [if_pos c.1]
    rw [this]
    rcases ht with rfl | rfl | rfl
    · exact ⟨rfl, d, v, rfl, rfl, r⟩
    · exact ⟨rfl, d, v, rfl, rfl, r⟩
    · exact ⟨rfl, d, v, rfl, rfl, r⟩
  · rw [if_neg c, if_neg c, if_neg c]
    by_cases e : j = i
    · have hj : ¬ j < Γ.length := fun z => c ⟨e, e ▸ z⟩
      have : off fp i j = [] := by unfold off; rw [if_pos e]
      rw [this, ty_out hj]
      rfl
    · have : off fp i j = fp j := by unfold off; rw [if_neg e]
      rw [this]
      exact h.slot j
/-- a slot is forgotten -/
theorem SL.forget {W : Wd} {fp : Nat → List Addr} {Γ : List Ty} {γ : En} {σ : L2.St} {H : Hp} (h : SL W fp Γ γ σ H) (i : Nat) (g : Option D) (s : Option V) : SL W (off fp i) (Γ.set i .u) (γ.set i g) (σ.set i s) H := by
  refine ⟨fun j => ?_, fun j => off_sub (h.nd j), fun j k hjk a ha hb => h.dj j k hjk a (off_mem ha).1 (off_mem hb).1, by rw [List.length_set, List.length_set]; exact h.len, by rw [List.length_set, List.length_set]; exact h.lenG⟩
  rw [ty_set, rd_set, optD_set]
  have e1 : γ.length = Γ.length := h.len.trans h.lenG.symm
  rw [e1, ← h.lenG]
  by_cases c : j = i ∧ i < Γ.length
  · rw [if_pos c, if_pos c, if_pos c]
    show off fp i j = []
    unfold off
    rw [if_pos c.1]
  · rw [if_neg c, if_neg c, if_neg c]
    by_cases e : j = i
    · have hj : ¬ j < Γ.length := fun z => c ⟨e, e ▸ z⟩
      have : off fp i j = [] := by unfold off; rw [if_pos e]
      rw [this, ty_out hj]
      rfl
    · have : off fp i j = fp j := by unfold off; rw [if_neg e]
      rw [this]
      exact h.slot j
theorem set_self {α : Type} (l : List (Option α)) (i : Nat) : l.set i (l.getD i none) = l := by
  apply List.ext_getElem?
  intro j
  by_cases e : j = i
  · subst e
    by_cases h : j < l.length
    · rw [List.getElem?_set_self h, List.getD_eq_getElem?_getD, List.getElem?_eq_getElem h]
      rfl
    · rw [List.set_eq_of_length_le (by omega)]
  · rw [List.getElem?_set_ne (Ne.symm e)]
theorem SL.forgetG {W : Wd} {fp : Nat → List Addr} {Γ : List Ty} {γ : En} {σ : L2.St} {H : Hp} (h : SL W fp Γ γ σ H) (i : Nat) (s : Option V) : SL W (off fp i) (Γ.set i .u) γ (σ.set i s) H := by
  have := h.forget i (γ.getD i none) s
  rw [set_self] at this
  exact this
theorem SL.forgetS {W : Wd} {fp : Nat → List Addr} {Γ : List Ty} {γ : En} {σ : L2.St} {H : Hp} (h : SL W fp Γ γ σ H) (i : Nat) (g : Option D) : SL W (off fp i) (Γ.set i .u) (γ.set i g) σ H := by
  have := h.forget i g (σ.getD i none)
  rw [set_self] at this
  exact this
theorem SL.forgetB {W : Wd} {fp : Nat → List Addr} {Γ : List Ty} {γ : En} {σ : L2.St} {H : Hp} (h : SL W fp Γ γ σ H) (i : Nat) : SL W (off fp i) (Γ.set i .u) γ σ H := by
  have := h.forgetG i (σ.getD i none)
  rw [set_self] at this
  exact this
def offs (fp : Nat → List Addr) : List Nat → Nat → List Addr
  | [] => fp
  | i :: is => off (offs fp is) i
def unk (Γ : List Ty) : List Nat → List Ty
  | [] => Γ
  | i :: is => (unk Γ is).set i .u
theorem offs_mem {fp : Nat → List Addr} {j : Nat} {a : Addr} : ∀ {is : List Nat}, a ∈ offs fp is j → a ∈ fp j
  | [], h => h
  | _ :: _, h => offs_mem (off_mem h).1
theorem SL.wipe {W : Wd} {fp : Nat → List Addr} {Γ : List Ty} {γ : En} {σ : L2.St} {H : Hp} (h : SL W fp Γ γ σ H) : ∀ is : List Nat, SL W (offs fp is) (unk Γ is) γ (L2.wipe σ is) H
  | [] => h
  | i :: is => by
    show SL W (off (offs fp is) i) ((unk Γ is).set i .u) γ ((L2.wipe σ is).set i none) H
    exact (SL.wipe h is).forgetG i none
/-! ### targets -/
mutual
def tgSlots : Tg → List Nat
  | .n i => [i]
  | .t ts => tgSlotss ts
  | .l ts => tgSlotss ts
def tgSlotss : List Tg → List Nat
  | [] => []
  | t :: ts => tgSlots t ++ tgSlotss ts
end
mutual
def setT : Tg → List Ty → List Ty
  | .n i, Γ => Γ.set i .p
  | .t ts, Γ => setTs ts Γ
  | .l ts, Γ => setTs ts Γ
def setTs : List Tg → List Ty → List Ty
  | [], Γ => Γ
  | t :: ts, Γ => setTs ts (setT t Γ)
end
/-- slots beside some are as they were -/
def SameBut (is : List Nat) (σ σ' : L2.St) : Prop := σ'.length = σ.length ∧ ∀ j, j ∉ is → σ'[j]? = σ[j]?
theorem SameBut.refl (is : List Nat) (σ : L2.St) : SameBut is σ σ := ⟨rfl, fun _ _ => rfl⟩
theorem SameBut.trans {is js : List Nat} {σ σ1 σ2 : L2.St} (a : SameBut is σ σ1) (b : SameBut js σ1 σ2) : SameBut (is ++ js) σ σ2 :=
  ⟨b.1.trans a.1, fun j h => (b.2 j fun m => h (List.mem_append_right _ m)).trans (a.2 j fun m => h (List.mem_append_left _ m))⟩
/-- footprints shrink -/
def Less (fp fp' : Nat → List Addr) : Prop := ∀ j a, a ∈ fp' j → a ∈ fp j
theorem Less.refl (fp : Nat → List Addr) : Less fp fp := fun _ _ h => h
theorem Less.trans {a b c : Nat → List Addr} (h : Less a b) (k : Less b c) : Less a c := fun j x m => h j x (k j x m)
def gT (tg : Tg) : TG := fun v σ H Q => ∃ W fp Γ γ d γ', SL W fp Γ γ σ H ∧ Same W.B H ∧ Rp W.B v d ∧ bindT tg d γ = some γ' ∧ ∀ σ' fp', SL W fp' (setT tg Γ) γ' σ' H → Less fp fp' → SameBut (tgSlots tg) σ σ' → Q σ' H
def gTs (ts : List Tg) : TGs := fun vs σ H Q => ∃ W fp Γ γ ds γ', SL W fp Γ γ σ H ∧ Same W.B H ∧ RpA W.B vs ds ∧ bindTs ts ds γ = some γ' ∧ ∀ σ' fp', SL W fp' (setTs ts Γ) γ' σ' H → Less fp fp' → SameBut (tgSlotss ts) σ σ' → Q σ' H
theorem PGw {X : Cx} {e : Expr} {t t' : TG} (h : PG X e t) (w : ∀ v σ H Q, t' v σ H Q → t v σ H Q) : PG X e t' := ⟨fun pins s σ H v u Q I r h' => h.run pins s σ H v u Q I r (w v σ H Q h')⟩
theorem PGsw {X : Cx} {es : List Expr} {t t' : TGs} (h : PGs X es t) (w : ∀ vs σ H Q, t' vs σ H Q → t vs σ H Q) : PGs X es t' := ⟨fun pins s σ H vs us Q I r h' => h.run pins s σ H vs us Q I r (w vs σ H Q h')⟩
section
variable {X : Cx}
theorem gt_n {e : Expr} {i : Nat} (h : PG X e (gName i)) : PG X e (gT (.n i)) :=
  PGw h fun v σ H Q ⟨W, fp, Γ, γ, d, γ', sl, sb, r, e, q⟩ => by
    simp only [bindT, Option.some.injEq] at e
    subst e
    refine q _ _ (sl.setP i (.inl rfl) r) (fun j a m => (off_mem m).1) ⟨by rw [List.length_set], fun j hj => ?_⟩
    rw [List.getElem?_set_ne]
    intro e
    exact hj (by rw [← e]; exact List.mem_cons_self)
theorem gt_nil : PGs X [] (gTs []) :=
  PGsw pgs_nil fun vs σ H Q ⟨W, fp, Γ, γ, ds, γ', sl, sb, r, e, q⟩ => by
    cases r with
    | nil =>
      simp only [bindTs, Option.some.injEq] at e
      subst e
      exact ⟨rfl, q _ _ sl (.refl _) (.refl _ _)⟩
    | cons _ _ => simp [bindTs] at e
theorem gt_cons {e : Expr} {es : List Expr} {t : Tg} {ts : List Tg} (h1 : PG X e (gT t)) (h2 : PGs X es (gTs ts)) (hs : assignEach (e :: es) X.env = (false, assign e X.env) :: assignEach es X.env) : PGs X (e :: es) (gTs (t :: ts)) :=
  PGsw (pgs_cons h1 h2 (by rw [hs]; rfl)) fun vs σ H Q ⟨W, fp, Γ, γ, ds, γ', sl, sb, r, e, q⟩ => by
    cases r with
    | nil => simp [bindTs] at e
    | @cons v vs d ds ra rr =>
      simp only [bindTs, Option.bind_eq_some_iff] at e
      obtain ⟨g, e1, e2⟩ := e
      refine ⟨v, vs, rfl, W, fp, Γ, γ, d, g, sl, sb, ra, e1, fun σ1 fp1 sl1 le1 sb1 => ?_⟩
      exact ⟨W, fp1, _, g, ds, γ', sl1, sb, rr, e2, fun σ2 fp2 sl2 le2 sb2 => q σ2 fp2 sl2 (le1.trans le2) (sb1.trans sb2)⟩
theorem each_len {es : List Expr} (h : es.all unstar = true) (env : PySem.Env) : (assignEach es env).length = es.length ∧ (assignEach es env).findIdx? (·.1) = none := by
  induction es with
  | nil => exact ⟨rfl, rfl⟩
  | cons e es ih =>
    rw [List.all_cons, Bool.and_eq_true] at h
    have e1 : assignEach (e :: es) env = (false, assign e env) :: assignEach es env := by
      have := h.1
      cases e <;> first | rfl | cases this
    obtain ⟨i1, i2⟩ := ih h.2
    refine ⟨by rw [e1, List.length_cons, List.length_cons, i1], ?_⟩
    rw [e1, List.findIdx?_cons, i2]
    rfl
theorem bindTs_len : ∀ {ts : List Tg} {ds : List D} {γ γ' : En}, bindTs ts ds γ = some γ' → ds.length = ts.length
  | [], [], _, _, _ => rfl
  | [], _ :: _, _, _, e => by simp [bindTs] at e
  | _ :: _, [], _, _, e => by simp [bindTs] at e
  | t :: ts, d :: ds, γ, γ', e => by
    simp only [bindTs, Option.bind_eq_some_iff] at e
    obtain ⟨g, _, e2⟩ := e
    rw [List.length_cons, List.length_cons, bindTs_len e2]
theorem gt_t {es : List Expr} {k : Nat} {pos : Pos} {ts : List Tg} (hc : X.calm = true) (h : PGs X es (gTs ts)) (hs : es.all unstar = true) (hl : es.length = ts.length) : PG X (.Tuple es k pos) (gT (.t ts)) :=
  PGw (pg_tup hc h (each_len hs _).1 (each_len hs _).2) fun v σ H Q ⟨W, fp, Γ, γ, d, γ', sl, sb, r, e, q⟩ => by
    cases d with
    | tuple ds =>
      cases r with
      | @tup a vs _ ha ra la =>
        simp only [bindT] at e
        exact ⟨a, vs, rfl, SqT.of (sb _ _ ha), by rw [ra.length, bindTs_len e, hl], W, fp, Γ, γ, ds, γ', sl, sb, ra, e, q⟩
    | _ => simp [bindT] at e
theorem gt_l {es : List Expr} {k : Nat} {pos : Pos} {ts : List Tg} (hc : X.calm = true) (h : PGs X es (gTs ts)) (hs : es.all unstar = true) (hl : es.length = ts.length) : PG X (.Tuple es k pos) (gT (.l ts)) :=
  PGw (pg_unl hc h (each_len hs _).1 (each_len hs _).2) fun v σ H Q ⟨W, fp, Γ, γ, d, γ', sl, sb, r, e, q⟩ => by
    cases d with
    | list ds =>
      cases r with
      | @lst a vs _ ha ra la =>
        simp only [bindT] at e
        exact ⟨a, vs, rfl, SqL.of (sb _ _ ha), by rw [ra.length, bindTs_len e, hl], W, fp, Γ, γ, ds, γ', sl, sb, ra, e, q⟩
    | _ => simp [bindT] at e
end
/-! ### worlds: freezing, changing what is one's own -/
theorem WI.freeze {W : Wd} {τ : Tape} {H : Hp} (w : WI W τ H) {p : Addr} {o : HO} (hp : H p = some o) (hb : W.B p = none) (hn : ¬ W.tp p) : WI (W.add p o) τ H := by
  refine ⟨fun b x e => ?_, ?_⟩
  · have e : upd W.B p o b = some x := e
    by_cases k : b = p
    · subst k
      rw [upd_same] at e
      cases e
      exact hp
    · rw [upd_ne k] at e
      exact w.sub b x e
  · cases w.tape with
    | off e => exact .off e
    | on a c cells e n h1 h2 e1 l1 e2 l2 al =>
      have na : a ≠ p := fun z => hn ⟨a, c, e, .inl z.symm⟩
      have nc : c ≠ p := fun z => hn ⟨a, c, e, .inr z.symm⟩
      refine .on a c cells e n ?_ ?_ e1 l1 e2 l2 al
      · show upd W.B p o a = none
        rw [upd_ne na]; exact h1
      · show upd W.B p o c = none
        rw [upd_ne nc]; exact h2
theorem WI.change {W : Wd} {τ : Tape} {H : Hp} (w : WI W τ H) {p : Addr} (o : HO) (hb : W.B p = none) (hn : ¬ W.tp p) : WI W τ (upd H p o) := by
  refine ⟨fun b x e => ?_, ?_⟩
  · have k : b ≠ p := fun z => by rw [z, hb] at e; cases e
    rw [upd_ne k]
    exact w.sub b x e
  · cases w.tape with
    | off e => exact .off e
    | on a c cells e n h1 h2 e1 l1 e2 l2 al =>
      have na : a ≠ p := fun z => hn ⟨a, c, e, .inl z.symm⟩
      have nc : c ≠ p := fun z => hn ⟨a, c, e, .inr z.symm⟩
      exact .on a c cells e n h1 h2 (by rw [upd_ne nc]; exact e1) l1 (by rw [upd_ne na]; exact e2) l2 al
/-- what was new at the start may be changed -/
theorem FrE.change {W W' : Wd} {H H' : Hp} (f : FrE W H W' H') {p : Addr} (o : HO) (hp : H p = none) : FrE W H W' (upd H' p o) := by
  refine ⟨f.st, f.stn, f.B, f.nb, fun a x e n => ?_, fun a h => ?_⟩
  · rw [upd_ne (ne_of_none e hp)]
    exact f.hp a x e n
  · by_cases k : a = p
    · rw [k, upd_same]; exact fun z => nomatch z
    · rw [upd_ne k]; exact f.Ht a h
/-- .. or frozen -/
theorem FrE.freeze {W W' : Wd} {H H' : Hp} (f : FrE W H W' H') {p : Addr} (o : HO) (hp : H p = none) (hb : W'.B p = none) : FrE W H (W'.add p o) H' := by
  refine ⟨f.st, f.stn, fun b x e => ?_, fun a h => ?_, f.hp, f.Ht⟩
  · have e1 := f.B b x e
    have k : b ≠ p := fun z => by rw [z, hb] at e1; cases e1
    show upd W'.B p o b = some x
    rw [upd_ne k]
    exact e1
  · have h : upd W'.B p o a ≠ none := h
    by_cases k : a = p
    · exact .inr (k ▸ hp)
    · rw [upd_ne k] at h
      exact f.nb a h
theorem add_same (W : Wd) {p : Addr} (o : HO) (hb : W.B p = none) : Same W.B (W.add p o).B := fun b x e => by
  show upd W.B p o b = some x
  rw [upd_ne (fun z => by rw [z, hb] at e; cases e)]
  exact e
theorem InnerL.there {W : Wd} {H : Hp} : ∀ {vs : List V} {ds : List D} {as : List Addr}, InnerL W H vs ds as → ∀ a ∈ as, ∃ o, H a = some o
  | [], [], [], _, a, h => nomatch h
  | .ref b :: vs, .list ds :: es, c :: as, h, a, ha => by
    obtain ⟨e, ⟨ws, h1, _⟩, t⟩ := h
    rcases List.mem_cons.mp ha with rfl | ha
    · exact ⟨_, e ▸ h1⟩
    · exact InnerL.there t a ha
theorem Slot.there {W : Wd} {H : Hp} {t : Ty} {g : Option D} {s : Option V} {F : List Addr} (h : Slot W H t g s F) : ∀ a ∈ F, ∃ o, H a = some o := by
  intro a ha
  cases t with
  | u => cases (show F = [] from h); cases ha
  | p => cases h.1; cases ha
  | pK => cases h.1; cases ha
  | pT => cases h.1; cases ha
  | st => cases h.1; cases ha
  | cl => cases h.1; cases ha
  | o =>
    obtain ⟨b, vs, ds, rfl, _, _, h3, _⟩ := h
    cases List.mem_singleton.mp ha
    exact ⟨_, h3⟩
  | oo =>
    obtain ⟨b, as, vs, ds, rfl, _, _, h3, _, _, r, _⟩ := h
    rcases List.mem_cons.mp ha with rfl | ha
    · exact ⟨_, h3⟩
    · exact r.there a ha
  | dK =>
    obtain ⟨b, vs, ds, rfl, _, _, h3, _⟩ := h
    cases List.mem_singleton.mp ha
    exact ⟨_, h3⟩
  | dT =>
    obtain ⟨b, vs, ds, rfl, _, _, h3, _⟩ := h
    cases List.mem_singleton.mp ha
    exact ⟨_, h3⟩
theorem InnerL.change {W : Wd} {H : Hp} {p : Addr} {o : HO} : ∀ {vs : List V} {ds : List D} {as : List Addr}, InnerL W H vs ds as → p ∉ as → InnerL W (upd H p o) vs ds as
  | [], [], [], _, _ => trivial
  | .ref b :: vs, .list ds :: es, c :: as, h, hp => by
    obtain ⟨e, ⟨ws, h1, h2⟩, t⟩ := h
    refine ⟨e, ⟨ws, ?_, h2⟩, InnerL.change t fun m => hp (List.mem_cons_of_mem _ m)⟩
    rw [upd_ne (fun z => hp (by rw [← z, e]; exact List.mem_cons_self))]
    exact h1
theorem Slot.change {W : Wd} {H : Hp} {t : Ty} {g : Option D} {s : Option V} {F : List Addr} {p : Addr} {o : HO} (h : Slot W H t g s F) (hp : p ∉ F) : Slot W (upd H p o) t g s F := by
  cases t with
  | u => exact h
  | p => exact h
  | pK => exact h
  | pT => exact h
  | st => exact h
  | cl => exact h
  | o =>
    obtain ⟨b, vs, ds, rfl, h1, h2, h3, r⟩ := h
    exact ⟨b, vs, ds, rfl, h1, h2, by rw [upd_ne (fun z => hp (by rw [z]; exact List.mem_cons_self))]; exact h3, r⟩
  | oo =>
    obtain ⟨b, as, vs, ds, rfl, h1, h2, h3, h4, h5, r, l⟩ := h
    exact ⟨b, as, vs, ds, rfl, h1, h2, by rw [upd_ne (fun z => hp (by rw [z]; exact List.mem_cons_self))]; exact h3, h4, h5, r.change fun m => hp (List.mem_cons_of_mem _ m), l⟩
  | dK =>
    obtain ⟨b, vs, ds, rfl, h1, h2, h3, r⟩ := h
    exact ⟨b, vs, ds, rfl, h1, h2, by rw [upd_ne (fun z => hp (by rw [z]; exact List.mem_cons_self))]; exact h3, r⟩
  | dT =>
    obtain ⟨b, vs, ds, rfl, h1, h2, h3, r⟩ := h
    exact ⟨b, vs, ds, rfl, h1, h2, by rw [upd_ne (fun z => hp (by rw [z]; exact List.mem_cons_self))]; exact h3, r⟩
theorem SL.change {W : Wd} {fp : Nat → List Addr} {Γ : List Ty} {γ : En} {σ : L2.St} {H : Hp} (h : SL W fp Γ γ σ H) {p : Addr} {o : HO} (hp : ∀ i, p ∉ fp i) : SL W fp Γ γ σ (upd H p o) :=
  ⟨fun i => (h.slot i).change (hp i), h.nd, h.dj, h.len, h.lenG⟩
theorem SL.new {W : Wd} {fp : Nat → List Addr} {Γ : List Ty} {γ : En} {σ : L2.St} {H : Hp} (h : SL W fp Γ γ σ H) {p : Addr} (hp : H p = none) : ∀ i, p ∉ fp i := fun i m => by
  obtain ⟨o, e⟩ := (h.slot i).there p m
  rw [hp] at e
  cases e
end Ev
set_option Elab.async false
set_option linter.all false
set_option maxRecDepth 100000
set_option autoImplicit false
/-! Ev9: list comprehensions. -/
namespace Ev
open PySem PySem.Spec PyProof.Rows L2
theorem wipe_same {σ σ' : L2.St} {is vs : List Nat} (h : SameBut is σ σ') (hs : ∀ i ∈ is, i ∈ vs) : L2.wipe σ' vs = L2.wipe σ vs := by
  apply List.ext_getElem?
  intro j
  by_cases hj : j ∈ vs
  · have key : ∀ (σ : L2.St) (vs : List Nat), j ∈ vs → (L2.wipe σ vs)[j]? = if j < σ.length then some none else none := by
      intro σ vs
      induction vs with
      | nil => intro hj; cases hj
      | cons v vs ih =>
        intro hj
        show ((L2.wipe σ vs).set v none)[j]? = _
        by_cases e : j = v
        · subst e
          by_cases hl : j < σ.length
          · rw [List.getElem?_set_self (by rw [L2.wipe_length]; exact hl), if_pos hl]
          · rw [List.getElem?_eq_none (by rw [List.length_set, L2.wipe_length]; omega), if_neg hl]
        · rw [List.getElem?_set_ne (Ne.symm e)]
          exact ih ((List.mem_cons.mp hj).resolve_left e)
    rw [key σ' vs hj, key σ vs hj, h.1]
  · rw [L2.wipe_out hj, L2.wipe_out hj]
    exact h.2 j fun m => hj (hs j m)
theorem wipe_wipe (σ : L2.St) (vs : List Nat) : L2.wipe (L2.wipe σ vs) vs = L2.wipe σ vs := by
  refine wipe_same (is := vs) ⟨L2.wipe_length σ vs, fun j hj => L2.wipe_out hj⟩ fun i h => h
section
variable {cf : CF} {Γ : List Ty} {X : Cx}
/-- a new list of one's own comes -/
def tO (cf : CF) (Γ : List Ty) (ie : IE) : TE := fun σ H Q => ∃ W fp γ τ d τ', WI W τ H ∧ SL W fp Γ γ σ H ∧ evalE cf ie γ τ = some (d, τ') ∧
  ∀ p vs ds W' H', d = .list ds → FrE W H W' H' → WI W' τ' H' → H' p = some (.lst vs) → W'.B p = none → ¬ W'.tp p → H p = none → RpA W'.B vs ds → ds.length ≤ sizeLine → Q (.ref p) H'
theorem tO_of {ie : IE} {σ : L2.St} {H : Hp} {Q : VK} (h : tJ cf Γ ie .p σ H Q) : tO cf Γ ie σ H Q := by
  obtain ⟨W, fp, γ, τ, d, τ', w, sl, ev, q⟩ := h
  refine ⟨W, fp, γ, τ, d, τ', w, sl, ev, fun p vs ds W1 H1 ed f1 w1 h1 b1 n1 hn r l => ?_⟩
  subst ed
  exact q (.ref p) (W1.add p (.lst vs)) H1 (f1.freeze _ hn b1) (w1.freeze h1 b1 n1) (.lst upd_same (r.mono (add_same W1 _ b1)) l)
theorem jo_j {e : Expr} {ie : IE} (h : PE X e (tO cf Γ ie)) : PE X e (tJ cf Γ ie .p) := PEw h fun σ H Q => tO_of
/-- one clause's turn -/
def lcF (cf : CF) (tg : Tg) (cond elt : IE) (γ : En) : D → Tape → Option (Option D × Tape) :=
  fun x t => (bindT tg x γ).bind fun g => (tst (evalE cf cond g t)).bind fun b => if b.1 then (evalE cf elt g b.2).map fun y => (some y.1, y.2) else some (none, b.2)
theorem ev_comp {own : List Nat} {tg : Tg} {k : IK} {args : List IE} {cond elt : IE} {γ : En} {τ τ' : Tape} {d : D} (e : evalE cf (.comp own tg k args cond elt) γ τ = some (d, τ')) :
    ∃ ds τ1 xs out, evalEs cf args γ τ = some (ds, τ1) ∧ items k ds = some xs ∧ lenOk k xs = true ∧ compL (lcF cf tg cond elt γ) xs τ1 = some (out, τ') ∧ d = .list out := by
  simp only [evalE, Option.bind_eq_some_iff, Prod.exists] at e
  obtain ⟨ds, τ1, e1, xs, e2, e3⟩ := e
  split at e3
  · rename_i hl
    obtain ⟨⟨out, τ2⟩, e4, e5⟩ := Option.map_eq_some_iff.mp e3
    cases e5
    exact ⟨ds, τ1, xs, out, e1, e2, hl, e4, rfl⟩
  · cases e3
theorem compL_cons {f : D → Tape → Option (Option D × Tape)} {x : D} {xs : List D} {τ τ' : Tape} {out : List D} (e : compL f (x :: xs) τ = some (out, τ')) :
    ∃ r τ1 out', f x τ = some (r, τ1) ∧ compL f xs τ1 = some (out', τ') ∧ out = r.toList ++ out' := by
  simp only [compL, Option.bind_eq_some_iff, Prod.exists, Option.map_eq_some_iff, Prod.mk.injEq] at e
  obtain ⟨r, τ1, e1, out', τ2, e2, rfl, rfl⟩ := e
  exact ⟨r, τ1, out', e1, e2, rfl⟩
theorem drop_cons' {α : Type} {xs : List α} {i : Nat} {x : α} (h : xs[i]? = some x) : xs.drop i = x :: xs.drop (i + 1) := by
  obtain ⟨h1, rfl⟩ := List.getElem?_eq_some_iff.mp h
  exact (List.drop_eq_getElem_cons h1)
theorem lc_turn {own : List Nat} {tg : Tg} {cond elt : IE} {σ : L2.St} {H1 : Hp} {Q : VK} {W1 : Wd} {fp : Nat → List Addr} {γ : En} {τ1 τ' : Tape} {xs out : List D} {J : It} (hown : ∀ i ∈ tgSlots tg, i ∈ own) (w1 : WI W1 τ1 H1) (sl1 : SL W1 fp Γ γ σ H1)
    (io : ItOk (fun W2 H2 => FrE W1 H1 W2 H2) J xs) (hlen : xs.length ≤ sizeLine) (e3 : compL (lcF cf tg cond elt γ) xs τ1 = some (out, τ'))
    (q : ∀ p vs W' H', FrE W1 H1 W' H' → WI W' τ' H' → H' p = some (.lst vs) → W'.B p = none → ¬ W'.tp p → H1 p = none → RpA W'.B vs out → out.length ≤ sizeLine → Q (.ref p) H') :
    ∀ D0, H1 D0 = none → ∃ Wf : Nat → Nat → Hp → Prop, (∃ m, Wf 0 m (upd H1 D0 (.lst []))) ∧ ∀ i m H, Wf i m H →
      (J.stop i H ∧ Q (.ref D0) H) ∨ (J.go i H ∧ ∃ Nx : Hp → Prop, (∀ H', Nx H' → ∃ m', m' < m ∧ Wf (i + 1) m' H') ∧ ∀ x H', J.yld i H x H' → gT tg x (L2.wipe σ own) H' fun σ2 H2 => L2.wipe σ2 own = L2.wipe σ own ∧ tT cf (setT tg (unk Γ own)) cond σ2 H2 fun b H3 =>
        if b = true then tJ cf (setT tg (unk Γ own)) elt .p σ2 H3 fun y H4 => ∃ acc, H4 D0 = some (.lst acc) ∧ acc.length < sizeLine ∧ Nx (upd H4 D0 (.lst (acc ++ [y]))) else Nx H3) := by
  intro D0 hD
  refine ⟨fun i m H2 => ∃ W2 τ2 accv acc rest, i + m = xs.length ∧ FrE W1 H1 W2 H2 ∧ WI W2 τ2 H2 ∧ W2.B D0 = none ∧ ¬ W2.tp D0 ∧ H2 D0 = some (.lst accv) ∧ RpA W2.B accv acc ∧ acc.length ≤ i ∧ compL (lcF cf tg cond elt γ) (xs.drop i) τ2 = some (rest, τ') ∧ out = acc ++ rest,
    ⟨xs.length, W1, τ1, [], [], out, by omega, ?_, ?_, w1.none_ hD, fun t => ?_, upd_same, .nil, Nat.zero_le _, e3, rfl⟩, fun i m H2 hW => ?_⟩
  · exact (FrE.refl W1 H1).change (.lst []) hD
  · exact w1.change _ (w1.none_ hD) fun t => by
      obtain ⟨xs, z⟩ := w1.tpx t
      rw [hD] at z
      cases z
  · obtain ⟨xs, z⟩ := w1.tpx t
    rw [hD] at z
    cases z
  · obtain ⟨W2, τ2, accv, acc, rest, em, f2, w2, b2, n2, hD2, ra, la, er, eo⟩ := hW
    have ok := io W2 τ2 H2 w2 f2 i
    cases hx : xs[i]? with
    | none =>
      have hge : xs.length ≤ i := List.getElem?_eq_none_iff.mp hx
      refine .inl ⟨ok.2 hge, ?_⟩
      rw [List.drop_eq_nil_of_le hge] at er
      cases er
      rw [List.append_nil] at eo
      subst eo
      have lo : out.length ≤ sizeLine := by
        have : i = xs.length := by omega
        omega
      exact q D0 accv W2 H2 f2 w2 hD2 b2 n2 hD ra lo
    | some x =>
      have hlt : i < xs.length := (List.getElem?_eq_some_iff.mp hx).1
      obtain ⟨go, yl⟩ := ok.1 x hx
      rw [drop_cons' hx] at er
      obtain ⟨r, τ3, out', er1, er2, eo2⟩ := compL_cons er
      subst eo2
      refine .inr ⟨go, fun H' => ∃ W2 τ2 accv acc rest, i + 1 + (m - 1) = xs.length ∧ FrE W1 H1 W2 H' ∧ WI W2 τ2 H' ∧ W2.B D0 = none ∧ ¬ W2.tp D0 ∧ H' D0 = some (.lst accv) ∧ RpA W2.B accv acc ∧ acc.length ≤ i + 1 ∧ compL (lcF cf tg cond elt γ) (xs.drop (i + 1)) τ2 = some (rest, τ') ∧ out = acc ++ rest,
        fun H' hN => ⟨m - 1, by omega, hN⟩, fun xv H3 hy => ?_⟩
      obtain ⟨W3, f3, w3, rx⟩ := yl xv H3 hy
      unfold lcF at er1
      simp only [Option.bind_eq_some_iff, Prod.exists] at er1
      obtain ⟨g, eb, b, τ4, et, er3⟩ := er1
      have slw := ((sl1.mono f2).mono f3).wipe own
      refine ⟨W3, _, _, γ, x, g, slw, w3.sub, rx, eb, fun σ2 fp2 sl2 _ sb2 => ⟨?_, ?_⟩⟩
      · rw [wipe_same sb2 hown, wipe_wipe]
      · refine ⟨W3, fp2, g, τ2, b, τ4, w3, sl2, et, fun W4 H4 f4 w4 => ?_⟩
        have f14 := ((f2.trans f3).trans f4)
        have hD4 : H4 D0 = some (.lst accv) := f4.hp _ _ (f3.hp _ _ hD2 n2) (f3.ntp hD2 n2)
        have n3 := f3.ntp hD2 n2
        have n4 := f4.ntp (f3.hp _ _ hD2 n2) n3
        have b3 := f3.ownB hD2 b2
        have b4 := f4.ownB (f3.hp _ _ hD2 n2) b3
        have ra4 := (ra.mono f3.B).mono f4.B
        cases b with
        | false =>
          rw [if_neg Bool.false_ne_true] at er3
          cases er3
          refine iteF ?_
          exact ⟨W4, _, accv, acc, out', by omega, f14, w4, b4, n4, hD4, ra4, by omega, er2, by simpa using eo⟩
        | true =>
          rw [if_pos rfl] at er3
          refine iteT ?_
          obtain ⟨⟨y, τ5⟩, ey, er4⟩ := Option.map_eq_some_iff.mp er3
          cases er4
          refine ⟨W4, fp2, g, τ4, y, _, w4, sl2.mono f4, ey, fun yv W5 H5 f5 w5 ry => ?_⟩
          have hD5 : H5 D0 = some (.lst accv) := f5.hp _ _ hD4 n4
          have n5 := f5.ntp hD4 n4
          have b5 := f5.ownB hD4 b4
          have ra5 := ra4.mono f5.B
          refine ⟨accv, hD5, by rw [ra.length]; omega, W5, _, accv ++ [yv], acc ++ [y], out', by omega, (f14.trans f5).change _ hD, w5.change _ b5 n5, b5, n5, upd_same, ra5.append (.cons ry .nil), by rw [List.length_append]; simp; omega, er2, ?_⟩
          rw [eo]
          simp
theorem lc_runO {own : List Nat} {tg : Tg} {k : IK} {args : List IE} {cond elt : IE} {σ : L2.St} {H : Hp} {Q : VK} (hown : ∀ i ∈ tgSlots tg, i ∈ own) (h : tO cf Γ (.comp own tg k args cond elt) σ H Q) :
    tLc (tIB cf Γ k args) (gT tg) (tT cf (setT tg (unk Γ own)) cond) (tJ cf (setT tg (unk Γ own)) elt .p) own σ H Q := by
  obtain ⟨W, fp, γ, τ, d, τ', w, sl, ev, q⟩ := h
  obtain ⟨ds, τ1, xs, out, e1, e2, hl, e3, rfl⟩ := ev_comp ev
  refine ⟨W, fp, γ, τ, ds, τ1, xs, w, sl, e1, e2, fun J W1 H1 f1 w1 io hlen => lc_turn hown w1 (sl.mono f1) io (hlen hl) e3 fun p vs W' H' f w h1 b n hn r l => q p vs out W' H' rfl (f1.trans f) w h1 b n (f1.free hn) r l⟩
end
end Ev
set_option Elab.async false
set_option linter.all false
set_option maxRecDepth 100000
set_option autoImplicit false
/-! Ev9b: comprehensions of two clauses. -/
namespace Ev
open PySem PySem.Spec PyProof.Rows L2
section
variable {cf : CF} {Γ : List Ty} {X : Cx}
def lc2F (cf : CF) (tg : Tg) (cond : IE) (tg2 : Tg) (k2 : IK) (args2 : List IE) (cond2 elt : IE) (γ : En) : D → Tape → Option (List D × Tape) :=
  fun x t => (bindT tg x γ).bind fun g => (tst (evalE cf cond g t)).bind fun b => if b.1 then
    (evalEs cf args2 g b.2).bind fun p2 => (items k2 p2.1).bind fun ys => compL (lcF cf tg2 cond2 elt g) ys p2.2
  else some ([], b.2)
theorem ev_comp2 {own : List Nat} {tg tg2 : Tg} {k k2 : IK} {args args2 : List IE} {cond cond2 elt : IE} {γ : En} {τ τ' : Tape} {d : D} (e : evalE cf (.comp2 own tg k args cond tg2 k2 args2 cond2 elt) γ τ = some (d, τ')) :
    ∃ ds τ1 xs out, evalEs cf args γ τ = some (ds, τ1) ∧ items k ds = some xs ∧ compLs (lc2F cf tg cond tg2 k2 args2 cond2 elt γ) xs τ1 = some (out, τ') ∧ out.length ≤ sizeLine ∧ d = .list out := by
  simp only [evalE, Option.bind_eq_some_iff, Prod.exists] at e
  obtain ⟨ds, τ1, e1, xs, e2, out, τ2, e3, e4⟩ := e
  split at e4
  · rename_i hl
    cases e4
    exact ⟨ds, τ1, xs, out, e1, e2, e3, hl, rfl⟩
  · cases e4
theorem compLs_cons {f : D → Tape → Option (List D × Tape)} {x : D} {xs : List D} {τ τ' : Tape} {out : List D} (e : compLs f (x :: xs) τ = some (out, τ')) :
    ∃ r τ1 out', f x τ = some (r, τ1) ∧ compLs f xs τ1 = some (out', τ') ∧ out = r ++ out' := by
  simp only [compLs, Option.bind_eq_some_iff, Prod.exists, Option.map_eq_some_iff, Prod.mk.injEq] at e
  obtain ⟨r, τ1, e1, out', τ2, e2, rfl, rfl⟩ := e
  exact ⟨r, τ1, out', e1, e2, rfl⟩
theorem lc2_runO {own vs1 : List Nat} {tg tg2 : Tg} {k k2 : IK} {args args2 : List IE} {cond cond2 elt : IE} {σ : L2.St} {H : Hp} {Q : VK} (hown : ∀ i ∈ tgSlots tg, i ∈ own) (hown2 : ∀ i ∈ tgSlots tg2, i ∈ vs1)
    (h : tO cf Γ (.comp2 own tg k args cond tg2 k2 args2 cond2 elt) σ H Q) :
    tLc2 (tIB cf Γ k args) (gT tg) (tT cf (setT tg (unk Γ own)) cond) (tI cf (setT tg (unk Γ own)) k2 args2) (gT tg2) (tT cf (setT tg2 (unk (setT tg (unk Γ own)) vs1)) cond2) (tJ cf (setT tg2 (unk (setT tg (unk Γ own)) vs1)) elt .p) own vs1 σ H Q := by
  obtain ⟨W, fp, γ, τ, d, τ', w, sl, ev, q⟩ := h
  obtain ⟨ds, τ1, xs, out, e1, e2, e3, hlen, rfl⟩ := ev_comp2 ev
  refine ⟨W, fp, γ, τ, ds, τ1, xs, w, sl, e1, e2, fun J W1 H1 f1 w1 io _ D0 hD => ?_⟩
  have nt : ∀ {W' : Wd} {H' : Hp} {τ' : Tape}, WI W' τ' H' → H' D0 = none → ¬ W'.tp D0 := fun w t z => by
    obtain ⟨xs, z⟩ := w.tpx z
    rw [t] at z
    cases z
  refine ⟨fun i m H2 => ∃ W2 τ2 accv acc rest, i + m = xs.length ∧ FrE W1 H1 W2 H2 ∧ WI W2 τ2 H2 ∧ W2.B D0 = none ∧ ¬ W2.tp D0 ∧ H2 D0 = some (.lst accv) ∧ RpA W2.B accv acc ∧ compLs (lc2F cf tg cond tg2 k2 args2 cond2 elt γ) (xs.drop i) τ2 = some (rest, τ') ∧ out = acc ++ rest,
    ⟨xs.length, W1, τ1, [], [], out, by omega, (FrE.refl W1 H1).change (.lst []) hD, w1.change _ (w1.none_ hD) (nt w1 hD), w1.none_ hD, nt w1 hD, upd_same, .nil, e3, rfl⟩, fun i m H2 hW => ?_⟩
  obtain ⟨W2, τ2, accv, acc, rest, em, f2, w2, b2, n2, hD2, ra, er, eo⟩ := hW
  have ok := io W2 τ2 H2 w2 f2 i
  cases hx : xs[i]? with
  | none =>
    have hge : xs.length ≤ i := List.getElem?_eq_none_iff.mp hx
    refine .inl ⟨ok.2 hge, ?_⟩
    rw [List.drop_eq_nil_of_le hge] at er
    cases er
    rw [List.append_nil] at eo
    subst eo
    exact q D0 accv out W2 H2 rfl (f1.trans f2) w2 hD2 b2 n2 (f1.free hD) ra hlen
  | some x =>
    have hlt : i < xs.length := (List.getElem?_eq_some_iff.mp hx).1
    obtain ⟨go, yl⟩ := ok.1 x hx
    rw [drop_cons' hx] at er
    obtain ⟨r, τ3, out', er1, er2, eo2⟩ := compLs_cons er
    subst eo2
    refine .inr ⟨go, fun H' => ∃ W2 τ2 accv acc rest, i + 1 + (m - 1) = xs.length ∧ FrE W1 H1 W2 H' ∧ WI W2 τ2 H' ∧ W2.B D0 = none ∧ ¬ W2.tp D0 ∧ H' D0 = some (.lst accv) ∧ RpA W2.B accv acc ∧ compLs (lc2F cf tg cond tg2 k2 args2 cond2 elt γ) (xs.drop (i + 1)) τ2 = some (rest, τ') ∧ out = acc ++ rest,
      fun H' hN => ⟨m - 1, by omega, hN⟩, fun xv H3 hy => ?_⟩
    obtain ⟨W3, f3, w3, rx⟩ := yl xv H3 hy
    unfold lc2F at er1
    simp only [Option.bind_eq_some_iff, Prod.exists] at er1
    obtain ⟨g, eb, b, τ4, et, er3⟩ := er1
    have slw := (((sl.mono f1).mono f2).mono f3).wipe own
    refine ⟨W3, _, _, γ, x, g, slw, w3.sub, rx, eb, fun σ2 fp2 sl2 le2 sb2 => ⟨?_, ?_⟩⟩
    · rw [wipe_same sb2 hown, wipe_wipe]
    refine ⟨W3, fp2, g, τ2, b, τ4, w3, sl2, et, fun W4 H4 f4 w4 => ?_⟩
    have f14 := ((f2.trans f3).trans f4)
    have hD4 : H4 D0 = some (.lst accv) := f4.hp _ _ (f3.hp _ _ hD2 n2) (f3.ntp hD2 n2)
    have n3 := f3.ntp hD2 n2
    have n4 := f4.ntp (f3.hp _ _ hD2 n2) n3
    have b3 := f3.ownB hD2 b2
    have b4 := f4.ownB (f3.hp _ _ hD2 n2) b3
    have ra4 := (ra.mono f3.B).mono f4.B
    have sl4 := sl2.mono f4
    cases b with
    | false =>
      rw [if_neg Bool.false_ne_true] at er3
      cases er3
      refine iteF ?_
      exact ⟨W4, _, accv, acc, out', by omega, f14, w4, b4, n4, hD4, ra4, er2, by simpa using eo⟩
    | true =>
      rw [if_pos rfl] at er3
      refine iteT ?_
      simp only [Option.bind_eq_some_iff, Prod.exists] at er3
      obtain ⟨ds2, τ5, e5, ys, e6, e7⟩ := er3
      refine ⟨W4, fp2, g, τ4, ds2, τ5, ys, w4, sl4, e5, e6, fun J1 W5 H5 f5 w5 io5 _ => ?_⟩
      have hD5 : H5 D0 = some (.lst accv) := f5.hp _ _ hD4 n4
      have n5 := f5.ntp hD4 n4
      have b5 := f5.ownB hD4 b4
      have sl5 := sl4.mono f5
      refine ⟨fun j kk H6 => ∃ W6 τ6 accv acc6 rest6, j + kk = ys.length ∧ FrE W1 H1 W6 H6 ∧ Same W5.B W6.B ∧ SL W6 (offs fp2 vs1) (unk (setT tg (unk Γ own)) vs1) g (L2.wipe σ2 vs1) H6 ∧ WI W6 τ6 H6 ∧ W6.B D0 = none ∧ ¬ W6.tp D0 ∧ H6 D0 = some (.lst accv) ∧ RpA W6.B accv acc6 ∧
          compL (lcF cf tg2 cond2 elt g) (ys.drop j) τ6 = some (rest6, τ3) ∧ out = acc6 ++ (rest6 ++ out'),
        ⟨ys.length, W5, τ5, accv, acc, r, by omega, f14.trans f5, Same.refl _, sl5.wipe vs1, w5, b5, n5, hD5, ra4.mono f5.B, e7, eo⟩, fun j kk H6 hW6 => ?_⟩
      obtain ⟨W6, τ6, accv6, acc6, rest6, em6, f6, sm6, sl6, w6, b6, n6, hD6, ra6, er6, eo6⟩ := hW6
      have ok6 := io5 W6 τ6 H6 w6 sm6 j
      cases hy6 : ys[j]? with
      | none =>
        have hge : ys.length ≤ j := List.getElem?_eq_none_iff.mp hy6
        refine .inl ⟨ok6.2 hge, ?_⟩
        rw [List.drop_eq_nil_of_le hge] at er6
        cases er6
        exact ⟨W6, _, accv6, acc6, out', by omega, f6, w6, b6, n6, hD6, ra6, er2, by simpa using eo6⟩
      | some y =>
        have hlt6 : j < ys.length := (List.getElem?_eq_some_iff.mp hy6).1
        obtain ⟨go6, yl6⟩ := ok6.1 y hy6
        rw [drop_cons' hy6] at er6
        obtain ⟨r6, τ7, out7, er7, er8, eo8⟩ := compL_cons er6
        subst eo8
        refine .inr ⟨go6, fun H' => ∃ W6 τ6 accv acc6 rest6, j + 1 + (kk - 1) = ys.length ∧ FrE W1 H1 W6 H' ∧ Same W5.B W6.B ∧ SL W6 (offs fp2 vs1) (unk (setT tg (unk Γ own)) vs1) g (L2.wipe σ2 vs1) H' ∧ WI W6 τ6 H' ∧ W6.B D0 = none ∧ ¬ W6.tp D0 ∧ H' D0 = some (.lst accv) ∧ RpA W6.B accv acc6 ∧
          compL (lcF cf tg2 cond2 elt g) (ys.drop (j + 1)) τ6 = some (rest6, τ3) ∧ out = acc6 ++ (rest6 ++ out'), fun H' hN => ⟨kk - 1, by omega, hN⟩, fun yv H7 hyv => ?_⟩
        obtain ⟨W7, f7, w7, ry⟩ := yl6 yv H7 hyv
        unfold lcF at er7
        simp only [Option.bind_eq_some_iff, Prod.exists] at er7
        obtain ⟨g2, eb2, b', τ8, et2, er9⟩ := er7
        have sl7 := sl6.mono f7
        refine ⟨W7, _, _, g, y, g2, sl7, w7.sub, ry, eb2, fun σ3 fp3 sl3 _ sb3 => ⟨?_, ?_⟩⟩
        · rw [wipe_same sb3 hown2, wipe_wipe]
        refine ⟨W7, fp3, g2, τ6, b', τ8, w7, sl3, et2, fun W8 H8 f8 w8 => ?_⟩
        have hD7 : H7 D0 = some (.lst accv6) := f7.hp _ _ hD6 n6
        have n7 := f7.ntp hD6 n6
        have b7 := f7.ownB hD6 b6
        have hD8 : H8 D0 = some (.lst accv6) := f8.hp _ _ hD7 n7
        have n8 := f8.ntp hD7 n7
        have b8 := f8.ownB hD7 b7
        have f18 := (f6.trans f7).trans f8
        have sm8 := (sm6.trans f7.B).trans f8.B
        have ra8 := (ra6.mono f7.B).mono f8.B
        have sl8 := sl7.mono f8
        cases b' with
        | false =>
          rw [if_neg Bool.false_ne_true] at er9
          cases er9
          refine iteF ?_
          exact ⟨W8, _, accv6, acc6, out7, by omega, f18, sm8, sl8, w8, b8, n8, hD8, ra8, er8, by simpa using eo6⟩
        | true =>
          rw [if_pos rfl] at er9
          refine iteT ?_
          obtain ⟨⟨z, τ9⟩, ez, er10⟩ := Option.map_eq_some_iff.mp er9
          cases er10
          refine ⟨W8, fp3, g2, τ8, z, _, w8, sl3.mono f8, ez, fun zv W9 H9 f9 w9 rz => ?_⟩
          have hD9 : H9 D0 = some (.lst accv6) := f9.hp _ _ hD8 n8
          have n9 := f9.ntp hD8 n8
          have b9 := f9.ownB hD8 b8
          have ra9 := ra8.mono f9.B
          have hlt9 : accv6.length < sizeLine := by
            rw [ra6.length]
            rw [eo6] at hlen
            simp only [List.length_append, Option.toList_some, List.length_cons, List.length_nil] at hlen
            omega
          have f19 := (f18.trans f9).change (p := D0) (.lst (accv6 ++ [zv])) hD
          refine ⟨accv6, hD9, hlt9, W9, _, accv6 ++ [zv], acc6 ++ [z], out7, by omega, f19, sm8.trans f9.B, ?_, w9.change _ b9 n9, b9, n9, upd_same, ra9.append (.cons rz .nil), er8, ?_⟩
          · exact (sl8.mono f9).change fun i m => (sl.mono f1).new hD i (offs_mem (le2 i _ (offs_mem m)))
          · rw [eo6]
            simp
end
end Ev
set_option Elab.async false
set_option linter.all false
set_option maxRecDepth 100000
set_option autoImplicit false
/-! Ev10: statements. -/
namespace Ev
open PySem PySem.Spec PyProof.Rows L2
/-- a state within a def that began at (W0, H0); Bk: what is known to be frozen -/
def SX (W0 : Wd) (H0 : Hp) (Bk : Hp) (Γ : List Ty) (γ : En) (τ : Tape) (σ : L2.St) (H : Hp) : Prop :=
  ∃ W fp, FrE W0 H0 W H ∧ Same Bk W.B ∧ WI W τ H ∧ SL W fp Γ γ σ H ∧ ∀ i a, a ∈ fp i → H0 a = none
/-- what is handed back -/
def RX (W0 : Wd) (H0 : Hp) (t : Ty) (v : V) (d : D) (τ : Tape) (H : Hp) : Prop := ∃ W, FrE W0 H0 W H ∧ WI W τ H ∧ Jv W t v d
def EndOk (W0 : Wd) (H0 : Hp) (Bk : Hp) (res : Ty) (Γ' ΓL : List Ty) (D : Ends) : Out → Prop
  | .nx γ τ => ∀ σ H, SX W0 H0 Bk Γ' γ τ σ H → D.nx σ H
  | .bk γ τ => ∀ σ H, SX W0 H0 Bk ΓL γ τ σ H → D.bk σ H
  | .ct γ τ => ∀ σ H, SX W0 H0 Bk ΓL γ τ σ H → D.ct σ H
  | .rt d τ => ∀ v H, RX W0 H0 res v d τ H → D.rt v H
section
variable (cf : CF) (res : Ty) (ΓL : List Ty)
def tS (Γ : List Ty) (is : IS) (Γ' : List Ty) : TS := fun D σ H => ∃ W0 H0 Bk γ τ out, SX W0 H0 Bk Γ γ τ σ H ∧ execS cf is γ τ = some out ∧ EndOk W0 H0 Bk res Γ' ΓL D out
def tSs (Γ : List Ty) (is : List IS) (Γ' : List Ty) : TS := fun D σ H => ∃ W0 H0 Bk γ τ out, SX W0 H0 Bk Γ γ τ σ H ∧ execSs cf is γ τ = some out ∧ EndOk W0 H0 Bk res Γ' ΓL D out
end
section
variable {W0 : Wd} {H0 Bk : Hp} {Γ Γ' : List Ty} {γ : En} {τ : Tape} {σ : L2.St} {H : Hp}
theorem SX.known {Bk' : Hp} (h : SX W0 H0 Bk Γ γ τ σ H) (k : Same Bk' Bk) : SX W0 H0 Bk' Γ γ τ σ H := by
  obtain ⟨W, fp, f, b, w, sl, n⟩ := h
  exact ⟨W, fp, f, k.trans b, w, sl, n⟩
/-- slots may be forgotten -/
def weak (Γ Γ' : List Ty) : Bool := decide (Γ.length = Γ'.length) && (Γ.zip Γ').all fun p => decide (p.2 = p.1) || decide (p.2 = .u)
theorem weak_at (h : weak Γ Γ' = true) (i : Nat) : ty Γ' i = ty Γ i ∨ ty Γ' i = .u := by
  unfold weak at h
  rw [Bool.and_eq_true, decide_eq_true_eq, List.all_eq_true] at h
  obtain ⟨hl, h⟩ := h
  by_cases hi : i < Γ.length
  · have hi' : i < Γ'.length := by omega
    have m : (Γ[i], Γ'[i]) ∈ Γ.zip Γ' := by
      have : (Γ.zip Γ')[i]'(by rw [List.length_zip]; omega) = (Γ[i], Γ'[i]) := List.getElem_zip ..
      rw [← this]
      exact List.getElem_mem _
    have q := h _ m
    have e1 : ty Γ i = Γ[i] := by unfold ty; rw [List.getD_eq_getElem?_getD, List.getElem?_eq_getElem hi]; rfl
    have e2 : ty Γ' i = Γ'[i] := by unfold ty; rw [List.getD_eq_getElem?_getD, List.getElem?_eq_getElem hi']; rfl
    rw [e1, e2]
    simpa using q
  · exact .inr (ty_out (by omega))
theorem weak_len (h : weak Γ Γ' = true) : Γ.length = Γ'.length := by
  unfold weak at h
  rw [Bool.and_eq_true, decide_eq_true_eq] at h
  exact h.1
theorem SL.weak {W : Wd} {fp : Nat → List Addr} (h : SL W fp Γ γ σ H) (k : Ev.weak Γ Γ' = true) : ∃ fp', SL W fp' Γ' γ σ H ∧ Less fp fp' := by
  refine ⟨fun i => if ty Γ' i = .u then [] else fp i, ⟨fun i => ?_, fun i => ?_, fun i j hij a ha hb => ?_, h.len, (weak_len k).symm.trans h.lenG⟩, fun i a ha => ?_⟩
  · by_cases e : ty Γ' i = .u
    · rw [if_pos e, e]; rfl
    · rw [if_neg e]
      rcases weak_at k i with q | q
      · rw [q]; exact h.slot i
      · exact absurd q e
  · split
    · exact List.nodup_nil
    · exact h.nd i
  · split at ha
    · cases ha
    · split at hb
      · cases hb
      · exact h.dj i j hij a ha hb
  · have ha : a ∈ (if ty Γ' i = .u then [] else fp i) := ha
    split at ha
    · cases ha
    · exact ha
theorem SX.weak (h : SX W0 H0 Bk Γ γ τ σ H) (k : Ev.weak Γ Γ' = true) : SX W0 H0 Bk Γ' γ τ σ H := by
  obtain ⟨W, fp, f, b, w, sl, n⟩ := h
  obtain ⟨fp', sl', le⟩ := sl.weak k
  exact ⟨W, fp', f, b, w, sl', fun i a m => n i a (le i a m)⟩
theorem SL.kill1 {W : Wd} {fp : Nat → List Addr} (h : SL W fp Γ γ σ H) {i : Nat} (hi : ty Γ i = .u) (x : Option D) : SL W fp Γ (γ.set i x) σ H := by
  refine ⟨fun j => ?_, h.nd, h.dj, by rw [List.length_set]; exact h.len, h.lenG⟩
  rw [rd_set]
  by_cases c : j = i ∧ i < γ.length
  · rw [if_pos c]
    have s := h.slot j
    rw [c.1, hi] at s ⊢
    exact s
  · rw [if_neg c]
    exact h.slot j
theorem SL.kill {W : Wd} {fp : Nat → List Addr} : ∀ {ks : List Nat} {γ : En}, SL W fp Γ γ σ H → (∀ k ∈ ks, ty Γ k = .u) → SL W fp Γ (Ev.kill γ ks) σ H
  | [], _, h, _ => h
  | k :: ks, γ, h, hk => SL.kill (ks := ks) (γ := γ.set k none) (h.kill1 (hk k List.mem_cons_self) none) fun j m => hk j (List.mem_cons_of_mem _ m)
theorem SX.kill {ks : List Nat} (h : SX W0 H0 Bk Γ γ τ σ H) (hk : ∀ k ∈ ks, ty Γ k = .u) : SX W0 H0 Bk Γ (Ev.kill γ ks) τ σ H := by
  obtain ⟨W, fp, f, b, w, sl, n⟩ := h
  exact ⟨W, fp, f, b, w, sl.kill hk, n⟩
end
section
variable {cf : CF} {res : Ty} {ΓL Γ Γ1 Γ2 : List Ty} {X : Cx}
/-! ### blocks -/
theorem jss_nil : PSs X [] (tSs cf res ΓL Γ [] Γ) := PSsw pss_nil fun D σ H ⟨W0, H0, Bk, γ, τ, out, sx, e, ok⟩ => by
  simp only [execSs, Option.some.injEq] at e
  subst e
  exact ok σ H sx
theorem exs_cons {s : IS} {ss : List IS} {γ : En} {τ : Tape} {out : Out} (e : execSs cf (s :: ss) γ τ = some out) :
    ∃ o, execS cf s γ τ = some o ∧ ((∃ g t, o = .nx g t ∧ execSs cf ss g t = some out) ∨ ((∀ g t, o ≠ .nx g t) ∧ out = o)) := by
  simp only [execSs, Option.bind_eq_some_iff] at e
  obtain ⟨o, e1, e2⟩ := e
  refine ⟨o, e1, ?_⟩
  cases o with
  | nx g t => exact .inl ⟨g, t, rfl, e2⟩
  | bk g t => cases e2; exact .inr ⟨(fun _ _ z => nomatch z), rfl⟩
  | ct g t => cases e2; exact .inr ⟨(fun _ _ z => nomatch z), rfl⟩
  | rt d t => cases e2; exact .inr ⟨(fun _ _ z => nomatch z), rfl⟩
theorem jss_cons {st : Stmt} {sts : List Stmt} {is : IS} {iss : List IS} (h : PS X st (tS cf res ΓL Γ is Γ1)) (h' : PSs X sts (tSs cf res ΓL Γ1 iss Γ2)) : PSs X (st :: sts) (tSs cf res ΓL Γ (is :: iss) Γ2) :=
  PSsw (pss_cons h h') fun D σ H ⟨W0, H0, Bk, γ, τ, out, sx, e, ok⟩ => by
    obtain ⟨o, e1, e2⟩ := exs_cons e
    refine ⟨W0, H0, Bk, γ, τ, o, sx, e1, ?_⟩
    rcases e2 with ⟨g, t, rfl, e3⟩ | ⟨hn, rfl⟩
    · exact fun σ1 H1 sx1 => ⟨W0, H0, Bk, g, t, out, sx1, e3, ok⟩
    · cases out with
      | nx g t => exact absurd rfl (hn g t)
      | bk g t => exact ok
      | ct g t => exact ok
      | rt d t => exact ok
/-- forgetting at the end of a block -/
theorem jss_weak {sts : List Stmt} {iss : List IS} (h : PSs X sts (tSs cf res ΓL Γ iss Γ1)) (k : weak Γ1 Γ2 = true) : PSs X sts (tSs cf res ΓL Γ iss Γ2) :=
  PSsw h fun D σ H ⟨W0, H0, Bk, γ, τ, out, sx, e, ok⟩ => ⟨W0, H0, Bk, γ, τ, out, sx, e, by
    cases out with
    | nx g t => exact fun σ1 H1 sx1 => ok σ1 H1 (sx1.weak k)
    | bk g t => exact ok
    | ct g t => exact ok
    | rt d t => exact ok⟩
/-- .. ahead of a block -/
theorem jss_pre {sts : List Stmt} {iss : List IS} (h : PSs X sts (tSs cf res ΓL Γ1 iss Γ2)) (k : weak Γ Γ1 = true) : PSs X sts (tSs cf res ΓL Γ iss Γ2) :=
  PSsw h fun D σ H ⟨W0, H0, Bk, γ, τ, out, sx, e, ok⟩ => ⟨W0, H0, Bk, γ, τ, out, sx.weak k, e, ok⟩
/-! ### freezing -/
def frzT : Ty → Option Ty
  | .o => some .p | .dK => some .pK | .dT => some .pT
  | _ => none
theorem InnerL.addB {W : Wd} {H : Hp} {p : Addr} {o : HO} (hb : W.B p = none) : ∀ {vs : List V} {ds : List D} {as : List Addr}, InnerL W H vs ds as → p ∉ as → InnerL (W.add p o) H vs ds as
  | [], [], [], _, _ => trivial
  | .ref b :: vs, .list ds :: es, c :: as, h, hp => by
    obtain ⟨e, ⟨ws, h1, h2, h3, r, l⟩, t⟩ := h
    refine ⟨e, ⟨ws, h1, ?_, h3, r.mono (add_same W o hb), l⟩, InnerL.addB hb t fun m => hp (List.mem_cons_of_mem _ m)⟩
    show upd W.B p o b = none
    rw [upd_ne (fun z => hp (by rw [← z, e]; exact List.mem_cons_self))]
    exact h2
theorem Slot.addB {W : Wd} {H : Hp} {t : Ty} {g : Option D} {s : Option V} {F : List Addr} {p : Addr} {o : HO} (h : Slot W H t g s F) (hp : p ∉ F) (hb : W.B p = none) : Slot (W.add p o) H t g s F := by
  have hB : ∀ {b}, W.B b = none → b ≠ p → (W.add p o).B b = none := fun {b} e n => by
    show upd W.B p o b = none
    rw [upd_ne n]
    exact e
  cases t with
  | u => exact h
  | p =>
    obtain ⟨e, d, v, h1, h2, r⟩ := h
    exact ⟨e, d, v, h1, h2, Rp.mono (add_same W o hb) r⟩
  | pK =>
    obtain ⟨e, d, v, h1, h2, r⟩ := h
    exact ⟨e, d, v, h1, h2, RpD.mono (add_same W o hb) r⟩
  | pT =>
    obtain ⟨e, d, v, h1, h2, r⟩ := h
    exact ⟨e, d, v, h1, h2, RpD.mono (add_same W o hb) r⟩
  | st => exact h
  | cl => exact h
  | o =>
    obtain ⟨b, vs, ds, rfl, h1, h2, h3, h4, h5, r, l⟩ := h
    exact ⟨b, vs, ds, rfl, h1, h2, h3, hB h4 (fun z => hp (by rw [z]; exact List.mem_cons_self)), h5, r.mono (add_same W _ hb), l⟩
  | oo =>
    obtain ⟨b, as, vs, ds, rfl, h1, h2, h3, h4, h5, r, l⟩ := h
    exact ⟨b, as, vs, ds, rfl, h1, h2, h3, hB h4 (fun z => hp (by rw [z]; exact List.mem_cons_self)), h5, r.addB hb fun m => hp (List.mem_cons_of_mem _ m), l⟩
  | dK =>
    obtain ⟨b, vs, ds, rfl, h1, h2, h3, h4, h5, r⟩ := h
    exact ⟨b, vs, ds, rfl, h1, h2, h3, hB h4 (fun z => hp (by rw [z]; exact List.mem_cons_self)), h5, r.mono (add_same W _ hb)⟩
  | dT =>
    obtain ⟨b, vs, ds, rfl, h1, h2, h3, h4, h5, r⟩ := h
    exact ⟨b, vs, ds, rfl, h1, h2, h3, hB h4 (fun z => hp (by rw [z]; exact List.mem_cons_self)), h5, r.mono (add_same W _ hb)⟩
/-- a slot stands otherwise -/
theorem SL.reslot {W : Wd} {fp : Nat → List Addr} {γ : En} {σ : L2.St} {H : Hp} {i : Nat} {t : Ty} {g : Option D} {s : Option V} {F : List Addr} (h : SL W (off fp i) (Γ.set i .u) γ σ H) (hi : i < Γ.length) (hs : Slot W H t g s F) (nd : F.Nodup) (dj : ∀ j, j ≠ i → ∀ a ∈ F, a ∉ fp j) :
    SL W (fun j => if j = i then F else fp j) (Γ.set i t) (γ.set i g) (σ.set i s) H := by
  have hl : i < γ.length := by have := h.len; have := h.lenG; rw [List.length_set] at this; omega
  have hl2 : i < σ.length := by have := h.len; omega
  refine ⟨fun j => ?_, fun j => ?_, fun j k hjk a ha hb => ?_, by rw [List.length_set, List.length_set]; exact h.len, by have := h.lenG; rw [List.length_set] at this ⊢; rw [List.length_set]; exact this⟩
  · rw [ty_set, rd_set, optD_set]
    by_cases c : j = i
    · rw [if_pos ⟨c, hi⟩, if_pos ⟨c, hl⟩, if_pos ⟨c, hl2⟩, if_pos c]
      exact hs
    · rw [if_neg (fun z => c z.1), if_neg (fun z => c z.1), if_neg (fun z => c z.1), if_neg c]
      have := h.slot j
      rw [ty_set, if_neg (fun z => c z.1)] at this
      have e : off fp i j = fp j := by unfold off; rw [if_neg c]
      rw [e] at this
      exact this
  · by_cases c : j = i
    · rw [if_pos c]; exact nd
    · rw [if_neg c]
      have := h.nd j
      have e : off fp i j = fp j := by unfold off; rw [if_neg c]
      rw [e] at this
      exact this
  · have ha : a ∈ (if j = i then F else fp j) := ha
    have hb : a ∈ (if k = i then F else fp k) := hb
    by_cases c : j = i
    · rw [if_pos c] at ha
      have ck : k ≠ i := fun z => hjk (c.trans z.symm)
      rw [if_neg ck] at hb
      exact dj k ck a ha hb
    · rw [if_neg c] at ha
      by_cases ck : k = i
      · rw [if_pos ck] at hb
        exact dj j c a hb ha
      · rw [if_neg ck] at hb
        have ej : off fp i j = fp j := by unfold off; rw [if_neg c]
        have ek : off fp i k = fp k := by unfold off; rw [if_neg ck]
        exact h.dj j k hjk a (by rw [ej]; exact ha) (by rw [ek]; exact hb)
theorem SL.addB {W : Wd} {fp : Nat → List Addr} {γ : En} {σ : L2.St} {H : Hp} {p : Addr} {o : HO} (h : SL W fp Γ γ σ H) (hp : ∀ i, p ∉ fp i) (hb : W.B p = none) : SL (W.add p o) fp Γ γ σ H :=
  ⟨fun i => (h.slot i).addB (hp i) hb, h.nd, h.dj, h.len, h.lenG⟩
theorem SX.freeze {W0 : Wd} {H0 Bk : Hp} {γ : En} {τ : Tape} {σ : L2.St} {H : Hp} (h : SX W0 H0 Bk Γ γ τ σ H) {i : Nat} {t : Ty} (ht : frzT (ty Γ i) = some t) : SX W0 H0 Bk (Γ.set i t) γ τ σ H := by
  obtain ⟨W, fp, f, b, w, sl, n⟩ := h
  have hi : i < Γ.length := by
    by_cases c : i < Γ.length
    · exact c
    · rw [ty_out c] at ht; cases ht
  have main : ∀ (a : Addr) (o : HO), fp i = [a] → H a = some o → W.B a = none → ¬ W.tp a → Slot (W.add a o) H t (rd γ i) (σ.getD i none) [] → SX W0 H0 Bk (Γ.set i t) γ τ σ H := by
    intro a o ef ha hb hn hs
    have hm : a ∈ fp i := by rw [ef]; exact List.mem_cons_self
    have hnew : H0 a = none := n i a hm
    have slb := sl.forgetB i
    have slc : SL (W.add a o) (off fp i) (Γ.set i .u) γ σ H := slb.addB (fun j m => by
      obtain ⟨m1, m2⟩ := off_mem m
      exact sl.dj j i m2 a m1 hm) hb
    have q := slc.reslot (t := t) hi hs List.nodup_nil (fun j _ c hc => nomatch hc)
    rw [show γ.set i (rd γ i) = γ from set_self γ i, set_self] at q
    refine ⟨W.add a o, _, f.freeze o hnew hb, b.trans (add_same W o hb), w.freeze ha hb hn, q, fun j c hc => ?_⟩
    have hc : c ∈ (if j = i then [] else fp j) := hc
    split at hc
    · cases hc
    · exact n j c hc
  have s := sl.slot i
  generalize hty : ty Γ i = ti at ht s
  cases ti with
  | o =>
    cases ht
    obtain ⟨a, vs, ds, e, h1, h2, h3, h4, h5, r, l⟩ := s
    exact main a _ e h3 h4 h5 ⟨rfl, _, _, h1, h2, .lst upd_same (r.mono (add_same W _ h4)) l⟩
  | dK =>
    cases ht
    obtain ⟨a, ks, ds, e, h1, h2, h3, h4, h5, r⟩ := s
    exact main a _ e h3 h4 h5 ⟨rfl, _, _, h1, h2, a, ds, rfl, rfl, ks, upd_same, r.mono (add_same W _ h4)⟩
  | dT =>
    cases ht
    obtain ⟨a, ks, ds, e, h1, h2, h3, h4, h5, r⟩ := s
    exact main a _ e h3 h4 h5 ⟨rfl, _, _, h1, h2, a, ds, rfl, rfl, ks, upd_same, r.mono (add_same W _ h4)⟩
  | _ => cases ht
theorem jss_frz {sts : List Stmt} {iss : List IS} {i : Nat} {t : Ty} (ht : frzT (ty Γ i) = some t) (h : PSs X sts (tSs cf res ΓL (Γ.set i t) iss Γ2)) : PSs X sts (tSs cf res ΓL Γ (.frz i :: iss) Γ2) :=
  PSsw h fun D σ H ⟨W0, H0, Bk, γ, τ, out, sx, e, ok⟩ => by
    obtain ⟨o, e1, e2⟩ := exs_cons e
    simp only [execS, Option.some.injEq] at e1
    subst e1
    rcases e2 with ⟨g, t, e3, e4⟩ | ⟨hn, _⟩
    · cases e3
      exact ⟨W0, H0, Bk, _, _, out, sx.freeze ht, e4, ok⟩
    · exact absurd rfl (hn _ _)
end
end Ev
set_option Elab.async false
set_option linter.all false
set_option maxRecDepth 100000
set_option autoImplicit false
/-! Ev11: simple statements. -/
namespace Ev
open PySem PySem.Spec PyProof.Rows L2
theorem SL.mut {W : Wd} {fp : Nat → List Addr} {Γ : List Ty} {γ : En} {σ : L2.St} {H : Hp} (h : SL W fp Γ γ σ H) {i : Nat} (hi : i < Γ.length) {a : Addr} (hF : fp i = [a]) {o : HO} {d : D} (hs : Slot W (upd H a o) (ty Γ i) (some d) (σ.getD i none) [a]) : SL W fp Γ (γ.set i (some d)) σ (upd H a o) := by
  have hl : i < γ.length := by have := h.len; have := h.lenG; omega
  refine ⟨fun j => ?_, h.nd, h.dj, by rw [List.length_set]; exact h.len, h.lenG⟩
  rw [rd_set]
  by_cases c : j = i
  · rw [if_pos ⟨c, hl⟩, c, hF]
    exact hs
  · rw [if_neg (fun z => c z.1)]
    exact (h.slot j).change fun m => h.dj j i c a m (by rw [hF]; exact List.mem_cons_self)
theorem each_one {t : Expr} (h : unstar t = true) (env : PySem.Env) : (assignEach [t] env).map (·.2) = [assign t env] := by
  cases t <;> first | rfl | cases h
/-- an index that is no slice -/
def noSlice : Expr → Bool
  | .Slice .. => false
  | _ => true
theorem sub_assign {o i : Expr} (h : noSlice i = true) (pos : Pos) (env : PySem.Env) (v : Value) : assign (.Subscript o i pos) env v = (do
      let ov ← holding [v] (eval o env)
      let iv ← holding [v, ov] (eval i env)
      standAt pos
      holding [v, ov, iv] (setItem ov iv v)
      release [v, ov, iv] []) := by
  cases i <;> first | rfl | cases h
theorem plain_ix {b : Expr} (h : noSlice b = true) : PlainIx b := fun o i => by
  cases b <;> first | rfl | cases h
section
variable {cf : CF} {res : Ty} {ΓL Γ Γ1 Γ2 : List Ty} {X : Cx}
/-- an own list or dict is changed, in a state -/
theorem SX.mut {W0 : Wd} {H0 Bk : Hp} {γ : En} {τ : Tape} {σ : L2.St} {H : Hp} {W : Wd} {fp : Nat → List Addr} {i : Nat} {a : Addr} {o : HO} {d : D} (f : FrE W0 H0 W H) (b : Same Bk W.B) (w : WI W τ H) (sl : SL W fp Γ γ σ H) (n : ∀ i a, a ∈ fp i → H0 a = none)
    (hi : i < Γ.length) (hF : fp i = [a]) (hb : W.B a = none) (hn : ¬ W.tp a) (hs : Slot W (upd H a o) (ty Γ i) (some d) (σ.getD i none) [a]) : SX W0 H0 Bk Γ (γ.set i (some d)) τ σ (upd H a o) :=
  ⟨W, fp, f.change o (n i a (by rw [hF]; exact List.mem_cons_self)), b, w.change o hb hn, sl.mut hi hF hs, n⟩
theorem ty_lt {i : Nat} {t : Ty} (h : ty Γ i = t) (ht : t ≠ .u) : i < Γ.length := by
  by_cases c : i < Γ.length
  · exact c
  · rw [ty_out c] at h
    exact absurd h.symm ht
/-! ### x = e; (a, b) = e -/
theorem w_set {tg : Tg} {ie : IE} {σ : L2.St} {H : Hp} {D : Ends} (h : tS cf res ΓL Γ (.set tg ie) (setT tg Γ) D σ H) : tAsg (tJ cf Γ ie .p) (gT tg) D σ H := by
  obtain ⟨W0, H0, Bk, γ, τ, out, ⟨W, fp, f, b, w, sl, n⟩, e, ok⟩ := h
  simp only [execS, Option.bind_eq_some_iff, Option.map_eq_some_iff, Prod.exists] at e
  obtain ⟨d, τ1, e1, g, e2, rfl⟩ := e
  refine ⟨W, fp, γ, τ, d, τ1, w, sl, e1, fun v W1 H1 f1 w1 r1 => ⟨W1, fp, Γ, γ, d, g, sl.mono f1, w1.sub, r1, e2, fun σ' fp' sl' le _ => ?_⟩⟩
  exact ok σ' H1 ⟨W1, fp', f.trans f1, b.trans f1.B, w1, sl', fun i a m => n i a (le i a m)⟩
theorem js_set {tg : Tg} {target e : Expr} {ie : IE} {pos : Pos} (hu : unstar target = true) (he : PE X e (tJ cf Γ ie .p)) (hg : PG X target (gT tg)) (hs : swapsWithSole [target] e pos.line X.env = pure false) (hw : swappedStores [target] e X.env = pure none) :
    PS X (.Assign [target] e pos) (tS cf res ΓL Γ (.set tg ie) (setT tg Γ)) := PSw (ps_asg he hg hs hw (each_one hu _)) fun D σ H h => w_set h
/-- .. a dict that comes frozen -/
theorem js_setD {i : Nat} {t : Ty} {target e : Expr} {ie : IE} {pos : Pos} (hu : unstar target = true) (ht : t = .p ∨ t = .pK ∨ t = .pT) (he : PE X e (tJ cf Γ ie t)) (hg : PG X target (gName i)) (hs : swapsWithSole [target] e pos.line X.env = pure false) (hw : swappedStores [target] e X.env = pure none) :
    PS X (.Assign [target] e pos) (tS cf res ΓL Γ (.own i t ie) (Γ.set i t)) := PSw (ps_asg he hg hs hw (each_one hu _)) fun D σ H ⟨W0, H0, Bk, γ, τ, out, ⟨W, fp, f, b, w, sl, n⟩, e, ok⟩ => by
  simp only [execS, Option.map_eq_some_iff, Prod.exists] at e
  obtain ⟨d, τ1, e1, rfl⟩ := e
  refine ⟨W, fp, γ, τ, d, τ1, w, sl, e1, fun v W1 H1 f1 w1 r1 => ?_⟩
  exact ok _ H1 ⟨W1, off fp i, f.trans f1, b.trans f1.B, w1, (sl.mono f1).setP i ht r1, fun j a m => n j a (off_mem m).1⟩
/-- x = a new list of one's own -/
theorem w_own {i : Nat} {ie : IE} {σ : L2.St} {H : Hp} {D : Ends} (hi : i < Γ.length) (h : tS cf res ΓL Γ (.own i .o ie) (Γ.set i .o) D σ H) : tAsg (tO cf Γ ie) (gName i) D σ H := by
  obtain ⟨W0, H0, Bk, γ, τ, out, ⟨W, fp, f, b, w, sl, n⟩, e, ok⟩ := h
  simp only [execS, Option.map_eq_some_iff, Prod.exists] at e
  obtain ⟨d, τ1, e1, rfl⟩ := e
  refine ⟨W, fp, γ, τ, d, τ1, w, sl, e1, fun p vs ds W1 H1 ed f1 w1 h1 b1 n1 hn r l => ?_⟩
  subst ed
  have sl1 := sl.mono f1
  have hp0 : H0 p = none := f.free hn
  refine ok _ H1 ⟨W1, _, f.trans f1, b.trans f1.B, w1, (sl1.forgetB i).reslot (t := .o) (F := [p]) hi ⟨p, vs, ds, rfl, rfl, rfl, h1, b1, n1, r, l⟩ (by simp) (fun j hj a ha => ?_), fun j a m => ?_⟩
  · cases List.mem_singleton.mp ha
    exact sl.new hn j
  · have m : a ∈ (if j = i then [p] else fp j) := m
    split at m
    · cases List.mem_singleton.mp m
      exact hp0
    · exact n j a m
theorem js_own {i : Nat} {target e : Expr} {ie : IE} {pos : Pos} (hu : unstar target = true) (hi : i < Γ.length) (he : PE X e (tO cf Γ ie)) (hg : PG X target (gName i)) (hs : swapsWithSole [target] e pos.line X.env = pure false) (hw : swappedStores [target] e X.env = pure none) :
    PS X (.Assign [target] e pos) (tS cf res ΓL Γ (.own i .o ie) (Γ.set i .o)) := PSw (ps_asg he hg hs hw (each_one hu _)) fun D σ H h => w_own hi h
/-- .. of written items -/
theorem jo_lst {es : List Expr} {ies : List IE} {pos : Pos} (h : PA X es (tPs cf Γ ies)) (hl : ies.length ≤ sizeLine) : PE X (.List es pos) (tO cf Γ (.lst ies)) :=
  PEw (pe_lst h) fun σ H Q ⟨W, fp, γ, τ, d, τ', w, sl, ev, q⟩ => by
    simp only [evalE, Option.map_eq_some_iff, Prod.mk.injEq, Prod.exists] at ev
    obtain ⟨ds, _, e1, rfl, rfl⟩ := ev
    refine ⟨W, fp, γ, τ, ds, _, w, sl, e1, fun vs W1 H1 f1 w1 r1 => ?_⟩
    have hz : ds.length ≤ sizeLine := by rw [evs_len e1]; exact hl
    refine ⟨by rw [r1.length]; exact hz, fun p hp => ?_⟩
    have np : ¬ W1.tp p := fun t => by
      obtain ⟨xs, z⟩ := w1.tpx t
      rw [hp] at z
      cases z
    exact q p vs ds W1 _ rfl (f1.change _ (f1.free hp)) (w1.change _ (w1.none_ hp) np) upd_same (w1.none_ hp) np (f1.free hp) r1 hz
/-- {} -/
theorem js_dnew {i : Nat} {t : Bool} {target : Expr} {p1 pos : Pos} (hu : unstar target = true) (hi : i < Γ.length) (hg : PG X target (gName i)) (hs : swapsWithSole [target] (.Dict [] [] p1) pos.line X.env = pure false) (hw : swappedStores [target] (.Dict [] [] p1) X.env = pure none) :
    PS X (.Assign [target] (.Dict [] [] p1) pos) (tS cf res ΓL Γ (.own i (if t then .dT else .dK) (.dnew t)) (Γ.set i (if t then .dT else .dK))) := by
  have key : ∀ {D : Ends} {σ : L2.St} {H : Hp}, tS cf res ΓL Γ (.own i (if t then .dT else .dK) (.dnew t)) (Γ.set i (if t then .dT else .dK)) D σ H → ∀ p, H p = none → D.nx (σ.set i (some (.ref p))) (upd H p (if t then .dT [] else .dK [])) := by
    intro D σ H ⟨W0, H0, Bk, γ, τ, out, ⟨W, fp, f, b, w, sl, n⟩, e, ok⟩ p hp
    simp only [execS, evalE, Option.map_some, Option.some.injEq] at e
    subst e
    have np : ¬ W.tp p := fun t => by
      obtain ⟨xs, z⟩ := w.tpx t
      rw [hp] at z
      cases z
    have hp0 : H0 p = none := f.free hp
    refine ok _ _ ⟨W, _, f.change _ hp0, b, w.change _ (w.none_ hp) np, ((sl.forgetB i).change (p := p) (fun j m => sl.new hp j (off_mem m).1)).reslot (t := if t then .dT else .dK) (F := [p]) hi ?_ (by simp) (fun j hj a ha => ?_), fun j a m => ?_⟩
    · cases t with
      | true => exact ⟨p, [], [], rfl, rfl, rfl, upd_same, w.none_ hp, np, .nil⟩
      | false => exact ⟨p, [], [], rfl, rfl, rfl, upd_same, w.none_ hp, np, .nil⟩
    · cases List.mem_singleton.mp ha
      exact sl.new hp j
    · have m : a ∈ (if j = i then [p] else fp j) := m
      split at m
      · cases List.mem_singleton.mp m
        exact hp0
      · exact n j a m
  cases t with
  | true => exact PSw (ps_asg pe_dnewT hg hs hw (each_one hu _)) fun D σ H h p hp => key h p hp
  | false => exact PSw (ps_asg pe_dnewK hg hs hw (each_one hu _)) fun D σ H h p hp => key h p hp
/-- a, b = x, y of plain local names -/
theorem js_par {i j : Nat} {x y : Str} {a b : Expr} {ia ib : IE} {px py pt : Pos} {kt k2 : Nat} {pt2 pos : Pos} (hc : X.calm = true) (hN : X.N.Nodup) (hi : X.N[i]? = some x) (hj : X.N[j]? = some y) (hij : i ≠ j)
    (hx : X.env.scope.names.lookup x = some .local) (hy : X.env.scope.names.lookup y = some .local) (ha : PA X [a, b] (tPs cf Γ [ia, ib]))
    (hw : swappedStores [.Tuple [.Name x px, .Name y py] kt pt] (.Tuple [a, b] k2 pt2) X.env = pure (some [x, y])) :
    PS X (.Assign [.Tuple [.Name x px, .Name y py] kt pt] (.Tuple [a, b] k2 pt2) pos) (tS cf res ΓL Γ (.par i j ia ib) ((Γ.set i .p).set j .p)) :=
  PSw (ps_par hc hN hi hj hij hx hy ha hw) fun D σ H ⟨W0, H0, Bk, γ, τ, out, ⟨W, fp, f, b, w, sl, n⟩, e, ok⟩ => by
    simp only [execS, Option.bind_eq_some_iff, Option.map_eq_some_iff, Prod.exists] at e
    obtain ⟨d, τ1, e1, d', τ2, e2, rfl⟩ := e
    refine ⟨W, fp, γ, τ, [d, d'], τ2, w, sl, by simp only [evalEs, e1, e2, Option.bind_some, Option.map_some], fun vs W1 H1 f1 w1 r1 => ?_⟩
    cases r1 with
    | cons ra rt =>
      cases rt with
      | cons rb rt =>
        cases rt
        refine ⟨_, _, rfl, ok _ H1 ⟨W1, _, f.trans f1, b.trans f1.B, w1, ((sl.mono f1).setP i (t := .p) (.inl rfl) ra).setP j (t := .p) (.inl rfl) rb, fun k a m => n k a (off_mem (off_mem m).1).1⟩⟩
/-! ### changes of own lists -/
theorem slot_o {W : Wd} {fp : Nat → List Addr} {γ : En} {σ : L2.St} {H : Hp} (sl : SL W fp Γ γ σ H) {i : Nat} (ht : ty Γ i = .o) : ∃ a vs ds, fp i = [a] ∧ rd γ i = some (.list ds) ∧ σ.getD i none = some (.ref a) ∧ H a = some (.lst vs) ∧ W.B a = none ∧ ¬ W.tp a ∧ RpA W.B vs ds ∧ ds.length ≤ sizeLine :=
  slot_at sl i ht
/-- x.append(e) -/
theorem js_app {i : Nat} {x : Expr} {e : Expr} {ie : IE} {apos cpos pos : Pos} (hx : PE X x (tVar i)) (hp : plainBase x = true) (ht : ty Γ i = .o) (he : PE X e (tJ cf Γ ie .p)) (hs : unstar e = true) (hl : (apos.endLine == cpos.line) = true) :
    PS X (.Expr (.Call (.Attribute x "append" apos) [e] [] cpos) pos) (tS cf res ΓL Γ (.app i ie) Γ) :=
  PSw (ps_expr (pe_bm PySem.F.plainAttrs_list PySem.F.slot_list_append PySem.F.type_list_append mt_append hx (jps_cons he jps_nil (star_cons hs [] _)) (base_of hp _ _ _) (few_of hs rfl (by decide)) hl (star_cons hs [] _) rfl)) fun D σ H ⟨W0, H0, Bk, γ, τ, out, ⟨W, fp, f, b, w, sl, n⟩, e, ok⟩ => by
    simp only [execS, Option.bind_eq_some_iff, Prod.exists] at e
    obtain ⟨d, τ1, e1, l, e2, e3⟩ := e
    obtain ⟨a, vs, ds, hF, h1, h2, h3, h4, h5, r, hz⟩ := slot_o sl ht
    rw [h1] at e2
    cases e2
    dsimp only at e3
    split at e3 <;> first | cases e3 | skip
    rename_i hlt
    refine ⟨.ref a, getD_some h2, Or.inl ⟨rfl, _, SqL.of h3⟩, W, fp, γ, τ, [d], τ1, w, sl, by simp only [evalEs, e1, Option.bind_some, Option.map_some], fun us W1 H1 f1 w1 r1 => ?_⟩
    cases r1 with
    | cons ra rt =>
      rename_i v us
      cases rt
      have h31 := f1.hp _ _ h3 h5
      have h41 := f1.ownB h3 h4
      have h51 := f1.ntp h3 h5
      have sl1 := sl.mono f1
      refine ⟨a, vs, v, rfl, rfl, h31, by rw [r.length]; exact hlt, ?_⟩
      refine ok σ _ (SX.mut (f.trans f1) (b.trans f1.B) w1 sl1 n (ty_lt ht (by decide)) hF h41 h51 ?_)
      rw [ht]
      exact ⟨a, _, _, rfl, rfl, h2, upd_same, h41, h51, (r.mono f1.B).append (.cons ra .nil), by rw [List.length_append]; exact hlt⟩
/-- x.extend(e) -/
theorem js_ext {i : Nat} {x : Expr} {e : Expr} {ie : IE} {apos cpos pos : Pos} (hx : PE X x (tVar i)) (hp : plainBase x = true) (ht : ty Γ i = .o) (he : PE X e (tJ cf Γ ie .p)) (hs : unstar e = true) (hl : (apos.endLine == cpos.line) = true) :
    PS X (.Expr (.Call (.Attribute x "extend" apos) [e] [] cpos) pos) (tS cf res ΓL Γ (.ext i ie) Γ) :=
  PSw (ps_expr (pe_bm PySem.F.plainAttrs_list PySem.F.slot_list_extend PySem.F.type_list_extend mt_extend hx (jps_cons he jps_nil (star_cons hs [] _)) (base_of hp _ _ _) (few_of hs rfl (by decide)) hl (star_cons hs [] _) rfl)) fun D σ H ⟨W0, H0, Bk, γ, τ, out, ⟨W, fp, f, b, w, sl, n⟩, e, ok⟩ => by
    simp only [execS, Option.bind_eq_some_iff, Prod.exists] at e
    obtain ⟨d, τ1, e1, l, e2, e3⟩ := e
    obtain ⟨a, vs, ds, hF, h1, h2, h3, h4, h5, r, hz⟩ := slot_o sl ht
    rw [h1] at e2
    cases e2
    cases d with
    | list ys =>
      dsimp only at e3
      split at e3 <;> first | cases e3 | skip
      rename_i hlt
      refine ⟨.ref a, getD_some h2, Or.inl ⟨rfl, _, SqL.of h3⟩, W, fp, γ, τ, [.list ys], τ1, w, sl, by simp only [evalEs, e1, Option.bind_some, Option.map_some], fun us W1 H1 f1 w1 r1 => ?_⟩
      cases r1 with
      | cons ra rt =>
        rename_i v us
        cases rt
        cases ra with
        | @lst c ws _ hc rc lc =>
          have h31 := f1.hp _ _ h3 h5
          have h41 := f1.ownB h3 h4
          have h51 := f1.ntp h3 h5
          have sl1 := sl.mono f1
          refine ⟨a, c, vs, ws, rfl, rfl, h31, w1.sub _ _ hc, by rw [r.length, rc.length]; exact hlt, ?_⟩
          refine ok σ _ (SX.mut (f.trans f1) (b.trans f1.B) w1 sl1 n (ty_lt ht (by decide)) hF h41 h51 ?_)
          rw [ht]
          exact ⟨a, _, _, rfl, rfl, h2, upd_same, h41, h51, (r.mono f1.B).append rc, by rw [List.length_append]; exact hlt⟩
    | _ => simp at e3
theorem updIx_some {l k y l' : D} (e : updIx l k y = some l') : ∃ xs i j, l = .list xs ∧ k = .int i ∧ ixN xs.length i = some j ∧ l' = .list (xs.set j y) := by
  unfold updIx at e
  split at e
  · obtain ⟨j, e1, rfl⟩ := Option.map_eq_some_iff.mp e
    exact ⟨_, _, j, rfl, rfl, e1, rfl⟩
  · cases e
/-- x[k] = e -/
theorem js_setix {i : Nat} {x k e : Expr} {ik ie : IE} {p2 pos : Pos} (hn : noSlice k = true) (hx : PE X x (tVar i)) (ht : ty Γ i = .o) (he : PE X e (tJ cf Γ ie .p)) (hk : PE X k (tB cf Γ ik)) (hs : swapsWithSole [.Subscript x k p2] e pos.line X.env = pure false) (hw : swappedStores [.Subscript x k p2] e X.env = pure none) :
    PS X (.Assign [.Subscript x k p2] e pos) (tS cf res ΓL Γ (.setix i ik ie) Γ) :=
  PSw (ps_asg he (pg_sub hx hk set_list (sub_assign hn _ _)) hs hw) fun D σ H ⟨W0, H0, Bk, γ, τ, out, ⟨W, fp, f, b, w, sl, n⟩, e, ok⟩ => by
    simp only [execS, Option.bind_eq_some_iff, Option.map_eq_some_iff, Prod.exists] at e
    obtain ⟨d, τ1, e1, q, τ2, e2, l, e3, l', e4, rfl⟩ := e
    obtain ⟨a, vs, ds, hF, h1, h2, h3, h4, h5, r, hz⟩ := slot_o sl ht
    rw [h1] at e3
    cases e3
    obtain ⟨xs, z, j, el, rfl, ej, rfl⟩ := updIx_some e4
    cases el
    refine ⟨W, fp, γ, τ, d, τ1, w, sl, e1, fun v W1 H1 f1 w1 r1 => ⟨.ref a, getD_some h2, W1, fp, γ, τ1, _, τ2, w1, sl.mono f1, e2, fun kv W2 H2 f2 w2 o2 => ?_⟩⟩
    cases o2.int
    have f12 := f1.trans f2
    have h31 := f12.hp _ _ h3 h5
    have h41 := f12.ownB h3 h4
    have h51 := f12.ntp h3 h5
    refine ⟨a, vs, z, j, rfl, rfl, h31, by rw [r.length]; exact ej, ?_⟩
    refine ok σ _ (SX.mut (f.trans f12) (b.trans f12.B) w2 (sl.mono f12) n (ty_lt ht (by decide)) hF h41 h51 ?_)
    rw [ht]
    exact ⟨a, _, _, rfl, rfl, h2, upd_same, h41, h51, (r.mono f12.B).set (Rp.mono f2.B r1) j, by rw [List.length_set]; exact hz⟩
/-! ### return, break, continue, an expression, if -/
theorem js_ret {e : Expr} {ie : IE} {pos : Pos} (he : PE X e (tJ cf Γ ie res)) : PS X (.Return (some e) pos) (tS cf res ΓL Γ (.ret ie) Γ1) :=
  PSw (ps_ret he) fun D σ H ⟨W0, H0, Bk, γ, τ, out, ⟨W, fp, f, b, w, sl, n⟩, e, ok⟩ => by
    simp only [execS, Option.map_eq_some_iff, Prod.exists] at e
    obtain ⟨d, τ1, e1, rfl⟩ := e
    exact ⟨W, fp, γ, τ, d, τ1, w, sl, e1, fun v W1 H1 f1 w1 r1 => ok v H1 ⟨W1, f.trans f1, w1, r1⟩⟩
theorem js_retN {pos : Pos} (hr : res = .p) : PS X (.Return none pos) (tS cf res ΓL Γ .retN Γ1) :=
  PSw ps_retN fun D σ H ⟨W0, H0, Bk, γ, τ, out, ⟨W, fp, f, b, w, sl, n⟩, e, ok⟩ => by
    simp only [execS, Option.some.injEq] at e
    subst e
    exact ok .non H ⟨W, f, w, by rw [hr]; exact .non⟩
theorem js_brk {pos : Pos} (hw : weak Γ ΓL = true) : PS X (.Break pos) (tS cf res ΓL Γ .brk Γ1) :=
  PSw ps_break fun D σ H ⟨W0, H0, Bk, γ, τ, out, sx, e, ok⟩ => by
    simp only [execS, Option.some.injEq] at e
    subst e
    exact ok σ H (sx.weak hw)
theorem js_cont {pos : Pos} (hw : weak Γ ΓL = true) : PS X (.Continue pos) (tS cf res ΓL Γ .cont Γ1) :=
  PSw ps_continue fun D σ H ⟨W0, H0, Bk, γ, τ, out, sx, e, ok⟩ => by
    simp only [execS, Option.some.injEq] at e
    subst e
    exact ok σ H (sx.weak hw)
theorem js_ex {e : Expr} {ie : IE} {pos : Pos} (he : PE X e (tJ cf Γ ie .p)) (hs : swapsWith e none pos.line X.env = pure false) : PS X (.Expr e pos) (tS cf res ΓL Γ (.ex ie) Γ) :=
  PSw (ps_expr he hs) fun D σ H ⟨W0, H0, Bk, γ, τ, out, ⟨W, fp, f, b, w, sl, n⟩, e, ok⟩ => by
    simp only [execS, Option.map_eq_some_iff, Prod.exists] at e
    obtain ⟨d, τ1, e1, rfl⟩ := e
    exact ⟨W, fp, γ, τ, d, τ1, w, sl, e1, fun v W1 H1 f1 w1 r1 => ok σ H1 ⟨W1, fp, f.trans f1, b.trans f1.B, w1, sl.mono f1, n⟩⟩
theorem js_ite {c : Expr} {a b : List Stmt} {ic : IE} {ia ib : List IS} {pos : Pos} (hc : PT X c (tT cf Γ ic)) (ha : PSs X a (tSs cf res ΓL Γ ia Γ1)) (hb : PSs X b (tSs cf res ΓL Γ ib Γ1)) : PS X (.If c a b pos) (tS cf res ΓL Γ (.ite ic ia ib) Γ1) :=
  PSw (ps_if hc ha hb) fun D σ H ⟨W0, H0, Bk, γ, τ, out, ⟨W, fp, f, b, w, sl, n⟩, e, ok⟩ => by
    simp only [execS, Option.bind_eq_some_iff, Prod.exists] at e
    obtain ⟨k, τ1, e1, e2⟩ := e
    refine ⟨W, fp, γ, τ, k, τ1, w, sl, e1, fun W1 H1 f1 w1 => ?_⟩
    cases k with
    | true =>
      rw [if_pos rfl] at e2
      exact iteT ⟨W0, H0, Bk, γ, τ1, out, ⟨W1, fp, f.trans f1, b.trans f1.B, w1, sl.mono f1, n⟩, e2, ok⟩
    | false =>
      rw [if_neg Bool.false_ne_true] at e2
      exact iteF ⟨W0, H0, Bk, γ, τ1, out, ⟨W1, fp, f.trans f1, b.trans f1.B, w1, sl.mono f1, n⟩, e2, ok⟩
end
end Ev
set_option Elab.async false
set_option linter.all false
set_option maxRecDepth 100000
set_option autoImplicit false
/-! Ev12: loops. -/
namespace Ev
open PySem PySem.Spec PyProof.Rows L2
section
variable {cf : CF} {res : Ty} {ΓL Γ G Γ1 Γ2 : List Ty} {X : Cx}
theorem ItOk.same {B : Hp} {J : It} {ds : List D} (h : ItOk (fun W _ => Same B W.B) J ds) : ∀ W τ H, WI W τ H → Same B W.B → ∀ i : Nat,
  (∀ d, ds[i]? = some d → J.go i H ∧ ∀ x H', J.yld i H x H' → ∃ W', FrE W H W' H' ∧ WI W' τ H' ∧ Rp W'.B x d) ∧ (ds.length ≤ i → J.stop i H) := h
/-- for tg in ..: body -/
theorem js_for {tg : Tg} {k : IK} {args : List IE} {ib : List IS} {ks : List Nat} {target iter : Expr} {body : List Stmt} {pos : Pos} (hx : X.xe = fun _ _ => False) (hc : X.calm = true) (h0 : weak Γ G = true) (hi : PI X target iter (tI cf Γ k args)) (hg : PG X target (gT tg))
    (hb : PSs X body (tSs cf res G (setT tg G) ib Γ1)) (h1 : weak Γ1 G = true) (hk : ∀ i ∈ ks, ty G i = .u) (hf : ∀ x, foldedSetIterable iter X.env x = pure x) :
    PS X (.For target iter body [] pos) (tS cf res ΓL Γ (.for tg k args ib ks G) G) := by
  have hp : PassesOwn (model X.prog X.w) X.A X.env X.xe := by rw [hx]; exact PassesOwn.never
  refine PSw (ps_for hp hc hi hg hb hf) fun D σ H ⟨W0, H0, Bk, γ, τ, out, ⟨W, fp, f, b, w, sl, n⟩, e, ok⟩ => ?_
  simp only [execS, Option.bind_eq_some_iff, Prod.exists] at e
  obtain ⟨ds, τ1, e1, xs, e2, e3⟩ := e
  refine ⟨W, fp, γ, τ, ds, τ1, xs, w, sl, e1, e2, fun J W1 H1 f1 w1 io _ => ?_⟩
  have start : SX W0 H0 W1.B G γ τ1 σ H1 := SX.weak (Γ := Γ) ⟨W1, fp, f.trans f1, Same.refl _, w1, sl.mono f1, n⟩ h0
  have kb : Same Bk W1.B := b.trans f1.B
  refine ⟨fun i m σ2 H2 => ∃ γ2 τ2, i + m = xs.length ∧ SX W0 H0 W1.B G γ2 τ2 σ2 H2 ∧ forL (fun x g t => (bindT tg x g).bind fun g' => execSs cf ib g' t) ks (xs.drop i) γ2 τ2 = some out, ⟨xs.length, γ, τ1, by omega, start, e3⟩, fun i m σ2 H2 hW => ?_⟩
  obtain ⟨γ2, τ2, em, sx2, er⟩ := hW
  obtain ⟨W2, fp2, f2, b2, w2, sl2, n2⟩ := id sx2
  have okI := io W2 τ2 H2 w2 b2 i
  cases hxi : xs[i]? with
  | none =>
    have hge : xs.length ≤ i := List.getElem?_eq_none_iff.mp hxi
    refine .inl ⟨okI.2 hge, ?_⟩
    rw [List.drop_eq_nil_of_le hge] at er
    simp only [forL, Option.some.injEq] at er
    subst er
    exact ok σ2 H2 (sx2.known kb)
  | some x =>
    have hlt : i < xs.length := (List.getElem?_eq_some_iff.mp hxi).1
    obtain ⟨go, yl⟩ := okI.1 x hxi
    rw [drop_cons' hxi] at er
    simp only [forL, Option.bind_eq_some_iff] at er
    obtain ⟨o, ⟨g', eb, eo⟩, er2⟩ := er
    refine .inr ⟨go, fun σ' H' => ∃ γ2 τ2, i + 1 + (m - 1) = xs.length ∧ SX W0 H0 W1.B G γ2 τ2 σ' H' ∧ forL (fun x g t => (bindT tg x g).bind fun g' => execSs cf ib g' t) ks (xs.drop (i + 1)) γ2 τ2 = some out, fun σ' H' hN => ⟨m - 1, by omega, hN⟩, fun xv H3 hy => ?_⟩
    obtain ⟨W3, f3, w3, rx⟩ := yl xv H3 hy
    refine ⟨W3, fp2, G, γ2, x, g', sl2.mono f3, w3.sub, rx, eb, fun σ4 fp4 sl4 le4 _ => ?_⟩
    refine ⟨W0, H0, W1.B, g', τ2, o, ⟨W3, fp4, f2.trans f3, b2.trans f3.B, w3, sl4, fun j a m => n2 j a (le4 j a m)⟩, eo, ?_⟩
    cases o with
    | nx g t =>
      intro σ5 H5 sx5
      exact ⟨_, _, by omega, (sx5.weak h1).kill hk, er2⟩
    | ct g t =>
      intro σ5 H5 sx5
      exact ⟨_, _, by omega, sx5.kill hk, er2⟩
    | bk g t =>
      intro σ5 H5 sx5
      cases er2
      exact ok σ5 H5 ((sx5.kill hk).known kb)
    | rt d t =>
      cases er2
      exact ok
/-- while c: body -/
theorem js_whl {ic : IE} {ib : List IS} {ks : List Nat} {c : Expr} {body : List Stmt} {pos : Pos} (hx : X.xe = fun _ _ => False) (h0 : weak Γ G = true) (hc : PT X c (tT cf G ic)) (hb : PSs X body (tSs cf res G G ib Γ1)) (h1 : weak Γ1 G = true) (hk : ∀ i ∈ ks, ty G i = .u) :
    PS X (.While c body [] pos) (tS cf res ΓL Γ (.whl ic ib ks G) G) := by
  have hp : PassesOwn (model X.prog X.w) X.A X.env X.xe := by rw [hx]; exact PassesOwn.never
  refine PSw (ps_while hp hc hb) fun D σ H ⟨W0, H0, Bk, γ, τ, out, sx, e, ok⟩ => ?_
  simp only [execS] at e
  refine ⟨fun m σ2 H2 => ∃ γ2 τ2, SX W0 H0 Bk G γ2 τ2 σ2 H2 ∧ whileL (fun g t => tst (evalE cf ic g t)) (fun g t => execSs cf ib g t) ks m γ2 τ2 = some out, ⟨bigL, γ, τ, sx.weak h0, e⟩, fun m σ2 H2 hW => ?_⟩
  obtain ⟨γ2, τ2, ⟨W2, fp2, f2, b2, w2, sl2, n2⟩, er⟩ := hW
  cases m with
  | zero => simp [whileL] at er
  | succ m =>
    simp only [whileL, Option.bind_eq_some_iff, Prod.exists] at er
    obtain ⟨k, τ3, e1, e2⟩ := er
    refine ⟨W2, fp2, γ2, τ2, k, τ3, w2, sl2, e1, fun W3 H3 f3 w3 => ?_⟩
    have sx3 : SX W0 H0 Bk G γ2 τ3 σ2 H3 := ⟨W3, fp2, f2.trans f3, b2.trans f3.B, w3, sl2.mono f3, n2⟩
    cases k with
    | false =>
      rw [if_neg Bool.false_ne_true] at e2
      cases e2
      exact iteF (ok σ2 H3 sx3)
    | true =>
      rw [if_pos rfl] at e2
      obtain ⟨o, e3, e4⟩ := Option.bind_eq_some_iff.mp e2
      refine iteT ⟨fun σ' H' => ∃ γ2 τ2, SX W0 H0 Bk G γ2 τ2 σ' H' ∧ whileL (fun g t => tst (evalE cf ic g t)) (fun g t => execSs cf ib g t) ks m γ2 τ2 = some out, fun σ' H' hN => ⟨m, Nat.lt_succ_self m, hN⟩, W0, H0, Bk, γ2, τ3, o, sx3, e3, ?_⟩
      cases o with
      | nx g t =>
        intro σ5 H5 sx5
        exact ⟨_, _, (sx5.weak h1).kill hk, e4⟩
      | ct g t =>
        intro σ5 H5 sx5
        exact ⟨_, _, sx5.kill hk, e4⟩
      | bk g t =>
        intro σ5 H5 sx5
        cases e4
        exact ok σ5 H5 (sx5.kill hk)
      | rt d t =>
        cases e4
        exact ok
end
end Ev
set_option Elab.async false
set_option linter.all false
set_option maxRecDepth 100000
set_option autoImplicit false
/-! EvTp: the drawing state; a display of texts that is asked at once. -/
namespace Ev
open PySem PySem.Spec PyProof.Rows L2
theorem tape_on {W : Wd} {l : List D} {H : Hp} (w : WI W (some l) H) : ∃ a c, ∃ cells : List Int, W.st = some (a, c) ∧ a ≠ c ∧ W.B a = none ∧ W.B c = none ∧ H c = some (.lst (cells.map V.int)) ∧ cells.length ≤ sizeLine ∧
    H a = some (.lst (l.map (tv c))) ∧ l.length ≤ sizeLine ∧ ∀ d ∈ l, (∃ i, d = .int i) ∨ d = .list (cells.map .int) := by
  cases w.tape with
  | on a c cells h1 h2 h3 h4 h5 h6 h7 h8 h9 => exact ⟨a, c, cells, h1, h2, h3, h4, h5, h6, h7, h8, h9⟩
theorem ixN_nat {m n : Nat} (h : n < m) : ixN m (n : Int) = some n := by
  unfold ixN
  simp
  omega
theorem isIntD_some {d : D} {k : Int} (h : isIntD d = some k) : d = .int k := by
  cases d <;> first | (cases h; rfl) | cases h
theorem isListD_some {d : D} {cs : List D} (h : isListD d = some cs) : d = .list cs := by
  cases d <;> first | (cases h; rfl) | cases h
theorem cells_of {l : List D} {cells : List Int} {cs : List D} (al : ∀ d ∈ l, (∃ i, d = .int i) ∨ d = .list (cells.map .int)) (h : tapeCells (some l) = some cs) : cs = cells.map .int := by
  have h : l.findSome? isListD = some cs := h
  obtain ⟨d, hd, e⟩ := List.exists_of_findSome?_eq_some h
  rcases al d hd with ⟨i, rfl⟩ | rfl
  · cases e
  · cases e; rfl
section
variable {cf : CF} {res : Ty} {ΓL Γ Γ1 : List Ty} {X : Cx}
/-- state[n] -/
theorem je_stx {e : Expr} {i n kk : Nat} {p pos : Pos} (hx : PE X e (tVar i)) (ht : ty Γ i = .st) : PE X (.Subscript e (.Constant (.int (n : Nat)) kk p) pos) (tJ cf Γ (.stx i n) .p) :=
  PEw (pe_ix ix_seq hx pe_int (plain_ix rfl)) fun σ H Q ⟨W, fp, γ, τ, d, τ', w, sl, ev, q⟩ => by
    simp only [evalE, Option.map_eq_some_iff, Prod.mk.injEq] at ev
    obtain ⟨k, e1, rfl, rfl⟩ := ev
    obtain ⟨_, _, a, c, h2, hst⟩ := slot_at sl i ht
    cases τ with
    | none => cases e1
    | some l =>
      obtain ⟨a', c', cells, g1, g2, g3, g4, g5, g6, g7, g8, g9⟩ := tape_on w
      rw [hst] at g1
      cases g1
      obtain ⟨d, e2, e3⟩ := Option.bind_eq_some_iff.mp (show (l[n]?).bind isIntD = some k from e1)
      cases isIntD_some e3
      have hn : n < l.length := (List.getElem?_eq_some_iff.mp e2).1
      refine ⟨.ref a, getD_some h2, .inl ⟨a, _, _, .int k, rfl, rfl, SqL.of g7, ?_, q _ W H (.refl W H) w (.int _)⟩⟩
      unfold atI
      rw [List.length_map, ixN_nat hn]
      show (l.map (tv c))[n]? = _
      rw [List.getElem?_map, e2]
      rfl
/-- len(cells) -/
theorem je_clen {e : Expr} {i : Nat} {p pos : Pos} (hg : Gl X "len") (hm : X.mg "len" = none) (hs : unstar e = true) (hx : PE X e (tVar i)) (ht : ty Γ i = .cl) : PE X (.Call (.Name "len" p) [e] [] pos) (tJ cf Γ (.clen i) .p) :=
  PEw (pe_callB call_len_seq hg hm (b1_boot (f := .len) rfl).1 (pa_cons hx pa_nil (star_cons hs [] _)) (b1_boot (f := .len) rfl).2.1 (b1_boot (f := .len) rfl).2.2 (star_cons hs [] _) rfl) fun σ H Q ⟨W, fp, γ, τ, d, τ', w, sl, ev, q⟩ => by
    simp only [evalE, Option.map_eq_some_iff, Prod.mk.injEq] at ev
    obtain ⟨cs, e1, rfl, rfl⟩ := ev
    obtain ⟨_, _, a, c, h2, hst⟩ := slot_at sl i ht
    cases τ with
    | none => cases e1
    | some l =>
      obtain ⟨a', c', cells, g1, g2, g3, g4, g5, g6, g7, g8, g9⟩ := tape_on w
      rw [hst] at g1
      cases g1
      cases cells_of g9 e1
      refine ⟨.ref c, getD_some h2, c, _, rfl, .inl (SqL.of g5), ?_⟩
      have := q (.int (cells.map V.int).length) W H (.refl W H) w (by rw [List.length_map, List.length_map]; exact .int _)
      exact this
/-- cells[e] -/
theorem je_cix {x e : Expr} {i : Nat} {ie : IE} {pos : Pos} (hn : noSlice e = true) (hx : PE X x (tVar i)) (ht : ty Γ i = .cl) (he : PE X e (tB cf Γ ie)) : PE X (.Subscript x e pos) (tJ cf Γ (.cix i ie) .p) :=
  PEw (pe_ix ix_seq hx he (plain_ix hn)) fun σ H Q ⟨W, fp, γ, τ, d, τ', w, sl, ev, q⟩ => by
    simp only [evalE, Option.bind_eq_some_iff, Option.map_eq_some_iff, Prod.mk.injEq, Prod.exists] at ev
    obtain ⟨z, τ1, e1, cs, e2, d', e3, rfl, rfl⟩ := ev
    obtain ⟨_, _, a, c, h2, hst⟩ := slot_at sl i ht
    refine ⟨.ref c, getD_some h2, W, fp, γ, τ, z, τ1, w, sl, e1, fun v W1 H1 f1 w1 o1 => ?_⟩
    cases τ1 with
    | none => cases e2
    | some l =>
      obtain ⟨a', c', cells, g1, g2, g3, g4, g5, g6, g7, g8, g9⟩ := tape_on w1
      rw [f1.st _ hst] at g1
      cases g1
      cases cells_of g9 e2
      unfold opIx at e3
      split at e3
      · rename_i xs y i' ex
        cases ex
        cases o1.int
        obtain ⟨j, q1, q2⟩ := Option.bind_eq_some_iff.mp (show (ixN (cells.map PyData.int).length i').bind (fun j => (cells.map PyData.int)[j]?) = some d' from e3)
        rw [List.getElem?_map, Option.map_eq_some_iff] at q2
        obtain ⟨k, q2, rfl⟩ := q2
        refine .inl ⟨c, _, i', .int k, rfl, rfl, SqL.of g5, ?_, q _ W1 H1 f1 w1 (.int _)⟩
        unfold atI
        rw [List.length_map] at q1 ⊢
        rw [q1]
        show (cells.map V.int)[j]? = _
        rw [List.getElem?_map, q2]
        rfl
      · rename_i xs y i' ex
        cases ex
      · cases e3
/-- cells = state[n] -/
theorem js_cget {t e : Expr} {i j n kk : Nat} {p p2 pos : Pos} (hu : unstar t = true) (hj : j < Γ.length) (hx : PE X e (tVar i)) (ht : ty Γ i = .st) (hg : PG X t (gName j)) (hs : swapsWithSole [t] (.Subscript e (.Constant (.int (n : Nat)) kk p) p2) pos.line X.env = pure false) (hw : swappedStores [t] (.Subscript e (.Constant (.int (n : Nat)) kk p) p2) X.env = pure none) :
    PS X (.Assign [t] (.Subscript e (.Constant (.int (n : Nat)) kk p) p2) pos) (tS cf res ΓL Γ (.cget j i n) (Γ.set j .cl)) :=
  PSw (ps_asg (pe_ix ix_seq hx pe_int (plain_ix rfl)) hg hs hw (each_one hu _)) fun D σ H ⟨W0, H0, Bk, γ, τ, out, ⟨W, fp, f, b, w, sl, nn⟩, e, ok⟩ => by
    simp only [execS, Option.bind_eq_some_iff, Option.map_eq_some_iff] at e
    obtain ⟨l, rfl, d, e1, cs, e2, rfl⟩ := e
    cases isListD_some e2
    obtain ⟨_, _, a, c, h2, hst⟩ := slot_at sl i ht
    obtain ⟨a', c', cells, g1, g2, g3, g4, g5, g6, g7, g8, g9⟩ := tape_on w
    rw [hst] at g1
    cases g1
    have hn : n < l.length := (List.getElem?_eq_some_iff.mp e1).1
    refine ⟨.ref a, getD_some h2, .inl ⟨a, _, _, .ref c, rfl, rfl, SqL.of g7, ?_, ?_⟩⟩
    · unfold atI
      rw [List.length_map, ixN_nat hn]
      show (l.map (tv c))[n]? = _
      rw [List.getElem?_map, e1]
      rfl
    · refine ok _ H ⟨W, _, f, b, w, (sl.forgetB j).reslot (t := .cl) (F := []) hj ⟨rfl, rfl, a, c, rfl, hst⟩ List.nodup_nil (fun j _ a ha => (List.not_mem_nil ha).elim), fun k a m => ?_⟩
      have m : a ∈ (if k = j then [] else fp k) := m
      split at m
      · cases m
      · exact nn k a m
/-- the drawing state's outer list changes -/
theorem tape_change {W : Wd} {l l' : List D} {H : Hp} {a c : Addr} (w : WI W (some l) H) (hst : W.st = some (a, c)) (hl : l'.length = l.length) (al : ∀ d ∈ l', d ∈ l ∨ ∃ i, d = .int i) : FrE W H W (upd H a (.lst (l'.map (tv c)))) ∧ WI W (some l') (upd H a (.lst (l'.map (tv c)))) := by
  obtain ⟨a', c', cells, g1, g2, g3, g4, g5, g6, g7, g8, g9⟩ := tape_on w
  rw [hst] at g1
  cases g1
  refine ⟨⟨fun _ h => h, fun _ h => .inl h, Same.refl _, fun _ h => .inl h, fun b o hb nb => ?_, fun b hb => ?_⟩, ⟨fun b o hb => ?_, .on a c cells hst g2 g3 g4 ?_ g6 upd_same (by rw [hl]; exact g8) fun d hd => ?_⟩⟩
  · rw [upd_ne (fun z => nb ⟨a, c, hst, .inl z⟩)]; exact hb
  · by_cases z : b = a
    · rw [z, upd_same]; exact fun z => nomatch z
    · rw [upd_ne z]; exact hb
  · rw [upd_ne (fun z => by rw [z, g3] at hb; cases hb)]; exact w.sub b o hb
  · rw [upd_ne (Ne.symm g2)]; exact g5
  · rcases al d hd with h | h
    · exact g9 d h
    · exact .inl h
/-- .. its inner list -/
theorem tape_cells {W : Wd} {l : List D} {H : Hp} {a c : Addr} (w : WI W (some l) H) (hst : W.st = some (a, c)) {cells' : List Int} (hz : cells'.length ≤ sizeLine) : FrE W H W (upd H c (.lst (cells'.map V.int))) ∧ WI W (some (setCells l (cells'.map .int))) (upd H c (.lst (cells'.map V.int))) := by
  obtain ⟨a', c', cells, g1, g2, g3, g4, g5, g6, g7, g8, g9⟩ := tape_on w
  rw [hst] at g1
  cases g1
  refine ⟨⟨fun _ h => h, fun _ h => .inl h, Same.refl _, fun _ h => .inl h, fun b o hb nb => ?_, fun b hb => ?_⟩, ⟨fun b o hb => ?_, .on a c cells' hst g2 g3 g4 upd_same hz ?_ (by unfold setCells; rw [List.length_map]; exact g8) fun d hd => ?_⟩⟩
  · rw [upd_ne (fun z => nb ⟨a, c, hst, .inr z⟩)]; exact hb
  · by_cases z : b = c
    · rw [z, upd_same]; exact fun z => nomatch z
    · rw [upd_ne z]; exact hb
  · rw [upd_ne (fun z => by rw [z, g4] at hb; cases hb)]; exact w.sub b o hb
  · rw [upd_ne g2, g7]
    have : (setCells l (cells'.map .int)).map (tv c) = l.map (tv c) := by
      unfold setCells
      rw [List.map_map]
      apply List.map_congr_left
      intro d hd
      rcases g9 d hd with ⟨i, rfl⟩ | rfl
      · rfl
      · rfl
    rw [this]
  · unfold setCells at hd
    obtain ⟨d', hd', rfl⟩ := List.mem_map.mp hd
    rcases g9 d' hd' with ⟨i, rfl⟩ | rfl
    · exact .inl ⟨i, rfl⟩
    · exact .inr rfl
/-- state[n] = e -/
theorem js_sset {x e : Expr} {i n kk : Nat} {ie : IE} {p p2 pos : Pos} (hx : PE X x (tVar i)) (ht : ty Γ i = .st) (he : PE X e (tJ cf Γ ie .p)) (hs : swapsWithSole [.Subscript x (.Constant (.int (n : Nat)) kk p) p2] e pos.line X.env = pure false) (hw : swappedStores [.Subscript x (.Constant (.int (n : Nat)) kk p) p2] e X.env = pure none) :
    PS X (.Assign [.Subscript x (.Constant (.int (n : Nat)) kk p) p2] e pos) (tS cf res ΓL Γ (.sset i n ie) Γ) :=
  PSw (ps_asg he (pg_sub hx pe_int set_list (sub_assign rfl _ _)) hs hw) fun D σ H ⟨W0, H0, Bk, γ, τ, out, ⟨W, fp, f, b, w, sl, nn⟩, e, ok⟩ => by
    simp only [execS, Option.bind_eq_some_iff, Option.map_eq_some_iff, Prod.exists] at e
    obtain ⟨d, τ1, e1, l, e2, k, e3, v, e4, rfl⟩ := e
    have e2 : τ1 = some l := e2
    subst e2
    cases intOf_some e4
    obtain ⟨_, _, a, c, h2, hst⟩ := slot_at sl i ht
    refine ⟨W, fp, γ, τ, _, _, w, sl, e1, fun u W1 H1 f1 w1 r1 => ⟨.ref a, getD_some h2, ?_⟩⟩
    cases r1
    obtain ⟨a', c', cells, g1, g2, g3, g4, g5, g6, g7, g8, g9⟩ := tape_on w1
    have hst1 := f1.st _ hst
    rw [hst1] at g1
    cases g1
    obtain ⟨d, e5, e6⟩ := Option.bind_eq_some_iff.mp (show (l[n]?).bind isIntD = some k from e3)
    have hn : n < l.length := (List.getElem?_eq_some_iff.mp e5).1
    refine ⟨a, l.map (tv c), _, n, rfl, rfl, g7, by rw [List.length_map]; exact ixN_nat hn, ?_⟩
    have hm : (l.map (tv c)).set n (.int v) = (l.set n (.int v)).map (tv c) := by rw [List.map_set]; rfl
    obtain ⟨f2, w2⟩ := tape_change w1 hst1 (l' := l.set n (.int v)) (by rw [List.length_set]) (fun d hd => by
      rcases List.mem_or_eq_of_mem_set hd with h | h
      · exact .inl h
      · exact .inr ⟨v, h⟩)
    rw [hm]
    have f12 := f1.trans f2
    exact ok σ _ ⟨W1, fp, f.trans f12, b.trans f12.B, w2, sl.mono f12, nn⟩
/-- cells[k] = e -/
theorem js_cset {x k e : Expr} {i : Nat} {ik ie : IE} {p2 pos : Pos} (hn : noSlice k = true) (hx : PE X x (tVar i)) (ht : ty Γ i = .cl) (he : PE X e (tJ cf Γ ie .p)) (hk : PE X k (tB cf Γ ik)) (hs : swapsWithSole [.Subscript x k p2] e pos.line X.env = pure false) (hw : swappedStores [.Subscript x k p2] e X.env = pure none) :
    PS X (.Assign [.Subscript x k p2] e pos) (tS cf res ΓL Γ (.cset i ik ie) Γ) :=
  PSw (ps_asg he (pg_sub hx hk set_list (sub_assign hn _ _)) hs hw) fun D σ H ⟨W0, H0, Bk, γ, τ, out, ⟨W, fp, f, b, w, sl, nn⟩, e, ok⟩ => by
    simp only [execS, Option.bind_eq_some_iff, Option.map_eq_some_iff, Prod.exists] at e
    obtain ⟨d, τ1, e1, q, τ2, e2, l, e3, cs, e4, v, e5, z, e6, j, e7, rfl⟩ := e
    have e3 : τ2 = some l := e3
    subst e3
    cases intOf_some e5
    cases intOf_some e6
    obtain ⟨_, _, a, c, h2, hst⟩ := slot_at sl i ht
    refine ⟨W, fp, γ, τ, _, _, w, sl, e1, fun u W1 H1 f1 w1 r1 => ⟨.ref c, getD_some h2, W1, fp, γ, τ1, _, _, w1, sl.mono f1, e2, fun kv W2 H2 f2 w2 o2 => ?_⟩⟩
    cases r1
    cases o2.int
    obtain ⟨a', c', cells, g1, g2, g3, g4, g5, g6, g7, g8, g9⟩ := tape_on w2
    have hst2 := f2.st _ (f1.st _ hst)
    rw [hst2] at g1
    cases g1
    cases cells_of g9 e4
    refine ⟨c, cells.map V.int, z, j, rfl, rfl, g5, by rw [List.length_map] at e7 ⊢; exact e7, ?_⟩
    obtain ⟨f3, w3⟩ := tape_cells w2 hst2 (cells' := cells.set j v) (by rw [List.length_set]; exact g6)
    have m1 : (cells.map V.int).set j (.int v) = (cells.set j v).map V.int := by rw [List.map_set]
    have m2 : (cells.map PyData.int).set j (.int v) = (cells.set j v).map PyData.int := by rw [List.map_set]
    rw [m1]
    rw [m2] at ok
    have f13 := (f1.trans f2).trans f3
    exact ok σ _ ⟨W2, fp, f.trans f13, b.trans f13.B, w3, sl.mono f13, nn⟩
/-! ### return [0, cells] -/
def tmV (tm : List (Option Int)) (v : V) : List V := tm.map fun o => match o with | some k => .int k | none => v
def tTm (i : Nat) (tm : List (Option Int)) : TA := fun σ H Q => ∃ v, σ[i]? = some (some v) ∧ Q (tmV tm v) H
theorem pa_tmC {es : List Expr} {i kk : Nat} {k : Int} {tm : List (Option Int)} {p : Pos} (h : PA X es (tTm i tm)) : PA X (.Constant (.int k) kk p :: es) (tTm i (some k :: tm)) :=
  PAw (pa_cons pe_int h rfl) fun σ H Q ⟨v, e, q⟩ => ⟨v, e, q⟩
theorem pa_tmV {es : List Expr} {e : Expr} {i : Nat} {tm : List (Option Int)} (hu : unstar e = true) (he : PE X e (tVar i)) (h : PA X es (tTm i tm)) : PA X (e :: es) (tTm i (none :: tm)) :=
  PAw (pa_cons he h (star_cons hu _ _)) fun σ H Q ⟨v, e, q⟩ => ⟨v, e, v, e, q⟩
theorem pa_tm0 {i : Nat} : PA X [] (tTm i []) := PAw pa_nil fun σ H Q ⟨v, e, q⟩ => q
theorem js_retSt {es : List Expr} {i : Nat} {tm : List (Option Int)} {p pos : Pos} (hr : res = .st) (ht : ty Γ i = .o) (hl : tm.length ≤ 1000) (h : PA X es (tTm i tm)) : PS X (.Return (some (.List es p)) pos) (tS cf res ΓL Γ (.retSt i tm) Γ1) :=
  PSw (ps_ret (pe_lst h)) fun D σ H ⟨W0, H0, Bk, γ, τ, out, ⟨W, fp, f, b, w, sl, nn⟩, e, ok⟩ => by
    cases τ with
    | some l => simp [execS] at e
    | none =>
      simp only [execS, Option.bind_eq_some_iff, Option.map_eq_some_iff] at e
      obtain ⟨d, e1, cs, e2, ns, e3, rfl⟩ := e
      cases listOf_some e2
      obtain ⟨c, vs, ds, hF, h1, h2, h3, h4, h5, r, hz⟩ := slot_o sl ht
      rw [e1] at h1
      cases h1
      have ev := r.ints e3
      have ed := ints_list e3
      subst ev ed
      have hst : W.st = none := by
        cases w.tape with
        | off h => exact h
      refine ⟨.ref c, getD_some h2, ?_, fun p hp => ?_⟩
      · unfold tmV; rw [List.length_map, sizeLine_eq]; omega
      have hpc : p ≠ c := fun z => by rw [z, h3] at hp; cases hp
      have ec : (tmL tm (ns.map .int)).map (tv c) = tmV tm (.ref c) := by
        unfold tmL tmV
        rw [List.map_map]
        apply List.map_congr_left
        intro o _
        cases o <;> rfl
      refine ok (.ref p) _ ⟨⟨W.B, some (p, c)⟩, ⟨fun x hx => ?_, fun b hb => ?_, f.B, f.nb, fun b o hb nb => ?_, fun b hb => ?_⟩, ⟨fun b o hb => ?_, .on p c ns rfl hpc (w.none_ hp) h4 ?_ ?_ (by rw [ec]; exact upd_same) ?_ fun d hd => ?_⟩, ?_⟩
      · have := f.st x hx
        rw [hst] at this
        cases this
      · obtain ⟨x, y, e, hb⟩ := hb
        cases e
        rcases hb with rfl | rfl
        · exact .inr (f.free hp)
        · exact .inr (nn i _ (by rw [hF]; exact List.mem_cons_self))
      · have hb1 := f.hp b o hb nb
        rw [upd_ne (fun z => by rw [z, hp] at hb1; cases hb1)]
        exact hb1
      · by_cases z : b = p
        · rw [z, upd_same]; exact fun z => nomatch z
        · rw [upd_ne z]; exact f.Ht b hb
      · have hb1 := w.sub b o hb
        rw [upd_ne (fun z => by rw [z, hp] at hb1; cases hb1)]
        exact hb1
      · rw [upd_ne (Ne.symm hpc)]; exact h3
      · rw [List.length_map] at hz; exact hz
      · unfold tmL; rw [List.length_map, sizeLine_eq]; omega
      · unfold tmL at hd
        obtain ⟨o, _, rfl⟩ := List.mem_map.mp hd
        cases o with
        | some k => exact .inl ⟨k, rfl⟩
        | none => exact .inr rfl
      · subst hr
        exact ⟨rfl, p, c, rfl, rfl⟩
/-! ### {..}[e] -/
def cV : D → V
  | .int i => .int i
  | .bool b => .bl b
  | .str x => .str x
  | _ => .non
def plainC : D → Bool
  | .int _ => true
  | .bool _ => true
  | .none => true
  | .str x => PyData.strOk x
  | _ => false
theorem cV_rp {B : Hp} {d : D} (h : plainC d = true) : Rp B (cV d) d := by
  cases d with
  | int i => exact .int i
  | bool b => exact .bl b
  | none => exact .non
  | str x => exact .str x h
  | _ => cases h
def kvV (kvs : List (Str × D)) : List (Key × V) := kvs.map fun p => (Sum.inr p.1, cV p.2)
theorem valV_merge (x : Str) : ∀ (kvs : List (Str × D)) (A : List (Key × V)) (o : Option D), valV A (.inr x) = o.map cV → valV (mergeK A (kvV kvs)) (.inr x) = (kvs.foldl (fun acc p => if x = p.1 then some p.2 else acc) o).map cV
  | [], A, o, h => h
  | p :: r, A, o, h => by
    show valV (mergeK (putK A (Sum.inr p.1) (cV p.2)) (kvV r)) (.inr x) = _
    rw [List.foldl_cons]
    refine valV_merge x r _ _ ?_
    rw [valV_put, h]
    by_cases c : x = p.1
    · rw [if_pos c, if_pos (by rw [c])]; rfl
    · rw [if_neg c, if_neg (fun z => c (Sum.inr.inj z))]
theorem lastK_mem {kvs : List (Str × D)} {x : Str} {d : D} (h : lastK kvs x = some d) : ∃ p ∈ kvs, p.2 = d := by
  have main : ∀ (kvs : List (Str × D)) (o : Option D), kvs.foldl (fun acc p => if x = p.1 then some p.2 else acc) o = some d → o = some d ∨ ∃ p ∈ kvs, p.2 = d := by
    intro kvs
    induction kvs with
    | nil => exact fun o h => .inl h
    | cons p r ih =>
      intro o h
      rcases ih _ h with h | ⟨q, hq, e⟩
      · have h : (if x = p.1 then some p.2 else o) = some d := h
        split at h
        · cases h; exact .inr ⟨p, List.mem_cons_self, rfl⟩
        · exact .inl h
      · exact .inr ⟨q, List.mem_cons_of_mem _ hq, e⟩
  rcases main kvs none h with h | h
  · cases h
  · exact h
def tcs (kvs : List (Str × D)) : List (TE × TE) := kvs.map fun p => (tC (.str p.1), tC (cV p.2))
theorem pairs_c {σ : L2.St} : ∀ (kvs : List (Str × D)) {H : Hp} {Q : List (V × V) → Hp → Prop}, Q ((kvV kvs).map fun kv => (kV kv.1, kv.2)) H → tPairs (tcs kvs) σ H Q
  | [], H, Q, q => q
  | p :: r, H, Q, q => pairs_c r q
theorem je_dcst {keys : List (Option Expr)} {values : List Expr} {kvs : List (Str × D)} {e : Expr} {ie : IE} {p pos : Pos} (hu : X.A.units + 150 < cLine) (h : PPs X p keys values (tcs kvs)) (hall : keys.all (·.isSome) = true) (hl : keys.length = values.length) (h0 : keys ≠ []) (h15 : keys.length ≤ 15) (hk : kvs.length ≤ 15)
    (hn : noSlice e = true) (hv : kvs.all (fun p => plainC p.2) = true) (he : PE X e (tB cf Γ ie)) : PE X (.Subscript (.Dict keys values p) e pos) (tJ cf Γ (.dcst kvs ie) .p) :=
  PEw (pe_dget (by omega) (pe_disp h hall hl h0 h15) he (fun ov iv => by cases e <;> first | rfl | cases hn)) fun σ H Q ⟨W, fp, γ, τ, d, τ', w, sl, ev, q⟩ => by
    simp only [evalE, Option.bind_eq_some_iff, Option.map_eq_some_iff, Prod.mk.injEq, Prod.exists] at ev
    obtain ⟨z, τ1, e1, x, e2, d', e3, rfl, rfl⟩ := ev
    intro a ha
    refine pairs_c kvs ⟨upd_same, kvV kvs, rfl, by unfold kvV; rw [List.length_map]; exact hk, ?_⟩
    have np : ¬ W.tp a := fun t => by
      obtain ⟨xs, z⟩ := w.tpx t
      rw [ha] at z
      cases z
    have eu : upd (upd H a (.dK [])) a (.dK (mergeK [] (kvV kvs))) = upd H a (.dK (mergeK [] (kvV kvs))) := by
      funext b
      by_cases c : b = a
      · subst c; rw [upd_same, upd_same]
      · rw [upd_ne c, upd_ne c, upd_ne c]
    rw [eu]
    have fa := (FrE.refl W H).change (p := a) (.dK (mergeK [] (kvV kvs))) ha
    refine ⟨W, fp, γ, τ, z, _, w.change _ (w.none_ ha) np, sl.change (fun i m => sl.new ha i m), e1, fun v W1 H1 f1 w1 o1 => ?_⟩
    have hx : z = .str x := by
      cases z <;> first | (cases e2; rfl) | cases e2
    subst hx
    obtain ⟨rfl, _⟩ := o1.str
    have hval := valV_merge x kvs [] none rfl
    have e3' : kvs.foldl (fun acc p => if x = p.1 then some p.2 else acc) none = some d' := e3
    rw [e3'] at hval
    refine ⟨a, cV d', rfl, .inl ⟨_, .inr x, .inl (f1.hp _ _ upd_same np), rfl, hval.symm⟩, q _ W1 H1 (fa.trans f1) w1 (cV_rp ?_)⟩
    obtain ⟨pr, hp, rfl⟩ := lastK_mem e3
    rw [List.all_eq_true] at hv
    exact hv pr hp
end
end Ev
set_option Elab.async false
set_option linter.all false
set_option maxRecDepth 100000
set_option autoImplicit false
/-! Ev13: the look that a run is a run of an expression. -/
namespace Ev
open PySem PySem.Spec PyProof.Rows L2
/-- what is known of a scope: the slots' names, its own names' kinds, a block's names (none: a def) -/
structure SC where
  N : List Str
  nm : List (Str × NameKind)
  bn : Option (List (Str × NameKind))
/-- what is known of the program: its defs (by their places), the built-ins' names that no module's name hides -/
structure PG0 where
  P : Prg
  fn : List Str
  bl : List Str
inductive Mode | j (t : Ty) | b | d (t : Bool) | t | o deriving DecidableEq
def okP : Mode → Bool
  | .j .p => true | .b => true | .t => true
  | _ => false
def visB (S : SC) (x : Str) : Bool := match S.nm.lookup x with
  | some .local => true | some .cell => true | some .free => true
  | _ => false
def locB (S : SC) (x : Str) : Bool := match S.nm.lookup x with
  | some .local => true
  | some .cell => (match S.bn with | none => true | some l => decide (l.lookup x = some .cell))
  | _ => false
def glB (S : SC) (x : Str) : Bool := decide (S.nm.lookup x = some .globalImplicit)
def noMagic (x : Str) : Bool := !(x == ("__debug__" : Str)) && !(x == ("__classdict__" : Str))
def noSet : Expr → Bool
  | .Set .. => false
  | _ => true
def opB : BOp → Operator → Bool
  | .add, .Add => true | .sub, .Sub => true | .mul, .Mult => true | .mod, .Mod => true | .fdiv, .FloorDiv => true | .pow, .Pow => true
  | _, _ => false
def copB : COp → CmpOp → Bool
  | .eq, .Eq => true | .ne, .NotEq => true | .lt, .Lt => true | .le, .LtE => true | .gt, .Gt => true | .ge, .GtE => true | .isin, .In => true | .notin, .NotIn => true
  | _, _ => false
theorem opB_eq {o : BOp} {op : Operator} (h : opB o op = true) : op = opA o := by
  cases o <;> cases op <;> first | rfl | cases h
theorem copB_eq {o : COp} {op : CmpOp} (h : copB o op = true) : op = copA o := by
  cases o <;> cases op <;> first | rfl | cases h
def chkV (S : SC) (Γ : List Ty) (m : Mode) (i : Nat) (x : Str) : Bool := decide (S.N[i]? = some x) && visB S x && noMagic x && match m with
  | .j t => decide (ty Γ i = t) && (decide (t = .p) || decide (t = .pK) || decide (t = .pT) || decide (t = .st))
  | .b | .t => decide (ty Γ i = .p) || decide (ty Γ i = .o)
  | .d t => decide (ty Γ i = if t then .dT else .dK) || decide (ty Γ i = if t then .pT else .pK)
  | .o => false
def chkC (d : D) : Expr → Bool
  | .Constant (.int i) _ _ => (match d with | .int j => decide (i = j) | _ => false)
  | .Constant (.bool i) _ _ => (match d with | .bool j => decide (i = j) | _ => false)
  | .Constant .none _ _ => (match d with | .none => true | _ => false)
  | .Constant (.str i) _ _ => (match d with | .str j => decide (i = j) && PyData.strOk i | _ => false)
  | .UnaryOp .USub (.Constant (.int i) _ _) _ => (match d with | .int j => decide (-i = j) | _ => false)
  | _ => false
/-- names of a block, as they stand within -/
def relN (names outer : List (Str × NameKind)) : List (Str × NameKind) := names.map fun p => if p.2 == .free && outer.lookup p.1 == some .cell then (p.1, .cell) else p
def SC.blk (S : SC) (scope : Scope) : SC := ⟨S.N, relN scope.names S.nm, some scope.names⟩
def ownOf (S : SC) (own : List Nat) : List (Str × Nat) := own.map fun i => (S.N.getD i (Str.ofString ""), i)
def blkB (S : SC) (scope : Scope) (own : List Nat) : Bool := decide (scope.kind = .function) && scope.names.all (fun y => decide (scope.names.lookup y.1 = some y.2)) && own.all (fun i => decide (i < S.N.length)) &&
  scope.names.all (fun y => if y.2 == .free then decide (S.nm.lookup y.1 = some .cell) || decide (S.nm.lookup y.1 = some .free) else true) &&
  scope.names.all (fun y => if y.2 == .local || y.2 == .cell then (ownOf S own).any (fun p => p.1 == y.1) || !S.N.contains y.1 else true)
mutual
def chkTg (S : SC) : Tg → Expr → Bool
  | .n i, e => (match e with | .Name x _ => decide (S.N[i]? = some x) && locB S x | _ => false)
  | .t ts, e => (match e with | .Tuple es _ _ => chkTgs S ts es | _ => false)
  | .l ts, e => (match e with | .Tuple es _ _ => chkTgs S ts es | _ => false)
def chkTgs (S : SC) : List Tg → List Expr → Bool
  | [], es => (match es with | [] => true | _ => false)
  | t :: ts, es => (match es with | e :: es => unstar e && chkTg S t e && chkTgs S ts es | _ => false)
end
def bWord (G : PG0) (S : SC) (x y : Str) : Bool := x == y && glB S x && G.bl.contains x
def isTup : Expr → Bool
  | .Tuple .. => true
  | _ => false
/-! ### forms of expressions -/
def kV (e : Expr) (f : Str → Bool) : Bool := match e with | .Name x _ => f x | _ => false
def kTup (e : Expr) (f : List Expr → Bool) : Bool := match e with | .Tuple es _ _ => f es | _ => false
def kLst (e : Expr) (f : List Expr → Bool) : Bool := match e with | .List es _ => f es | _ => false
def kBin (o : BOp) (e : Expr) (f g : Expr → Bool) : Bool := match e with | .BinOp a op b _ => opB o op && f a && g b | _ => false
def kCmp (o : COp) (e : Expr) (f g : Expr → Bool) : Bool := match e with | .Compare a [op] [b] _ => copB o op && noSet b && f a && g b | _ => false
def kCmp2 (o o' : COp) (e : Expr) (f g k : Expr → Bool) : Bool := match e with | .Compare a [op, op'] [b, c] _ => copB o op && copB o' op' && noSet c && f a && g b && k c | _ => false
def kIs (e : Expr) (f : Expr → Bool) : Bool := match e with | .Compare a [.Is] [.Constant .none _ _] _ => f a | _ => false
def kIsNot (e : Expr) (f : Expr → Bool) : Bool := match e with | .Compare a [.IsNot] [.Constant .none _ _] _ => f a | _ => false
def kAnd (e : Expr) (f g : Expr → Bool) : Bool := match e with | .BoolOp .And (a :: b :: rest) pos => f a && (if rest.isEmpty then g b else g (.BoolOp .And (b :: rest) pos)) | _ => false
def kOr (e : Expr) (f g : Expr → Bool) : Bool := match e with | .BoolOp .Or (a :: b :: rest) pos => f a && (if rest.isEmpty then g b else g (.BoolOp .Or (b :: rest) pos)) | _ => false
def kNot (e : Expr) (f : Expr → Bool) : Bool := match e with | .UnaryOp .Not a _ => f a | _ => false
def kIte (e : Expr) (f g k : Expr → Bool) : Bool := match e with | .IfExp c a b _ => f c && g a && k b | _ => false
def kIx (e : Expr) (f g : Expr → Bool) : Bool := match e with | .Subscript a b _ => noSlice b && f a && g b | _ => false
def kSlF (e : Expr) (f g : Expr → Bool) : Bool := match e with | .Subscript a (.Slice (some b) none none _) _ => f a && g b | _ => false
def kSlT (e : Expr) (f g : Expr → Bool) : Bool := match e with | .Subscript a (.Slice none (some b) none _) _ => f a && g b | _ => false
def kSlB (e : Expr) (f g k : Expr → Bool) : Bool := match e with | .Subscript a (.Slice (some b) (some c) none _) _ => f a && g b && k c | _ => false
def kRev (e : Expr) (f : Expr → Bool) : Bool := match e with | .Subscript a (.Slice none none (some (.UnaryOp .USub (.Constant (.int n) _ _) _)) _) _ => decide (n = 1) && f a | _ => false
def kCall1 (e : Expr) (f : Str → Bool) (g : Expr → Bool) : Bool := match e with | .Call (.Name x _) [a] [] _ => unstar a && f x && g a | _ => false
def kCall2 (e : Expr) (f : Str → Bool) (g k : Expr → Bool) : Bool := match e with | .Call (.Name x _) [a, b] [] _ => unstar a && unstar b && f x && g a && k b | _ => false
def kCall (e : Expr) (f : Str → Bool) (g : List Expr → Bool) : Bool := match e with | .Call (.Name x _) es [] _ => es.all unstar && noMagic x && f x && g es | _ => false
def kIndex (e : Expr) (f g : Expr → Bool) : Bool := match e with | .Call (.Attribute a y apos) [b] [] cpos => y == ("index" : Str) && plainBase a && unstar b && (apos.endLine == cpos.line) && f a && g b | _ => false
def kComp (e : Expr) (f : Scope → Bool) (g : Scope → Expr → Bool) (k : Expr → Expr → Bool) (c : Scope → List Expr → Bool) (w : Scope → Expr → Bool) : Bool := match e with
  | .ListComp elt [⟨tg, it, ifs, 0⟩] scope _ => f scope && noSet it && g scope tg && k tg it && c scope ifs && w scope elt
  | _ => false
def kComp2 (e : Expr) (f : Scope → Bool) (g : Scope → Expr → Bool) (k : Expr → Expr → Bool) (c : Scope → List Expr → Bool) (g2 : Scope → Expr → Bool) (k2 : Scope → Expr → Expr → Bool) (c2 : Scope → List Expr → Bool) (w : Scope → Expr → Bool) : Bool := match e with
  | .ListComp elt [⟨tg, it, ifs, 0⟩, ⟨tg2, it2, ifs2, 0⟩] scope _ => f scope && noSet it && g scope tg && k tg it && c scope ifs && (noSet it2 && g2 scope tg2 && k2 scope tg2 it2 && c2 scope ifs2 && w scope elt)
  | _ => false
def nameB (S : SC) (i : Nat) (e : Expr) : Bool := kV e fun x => decide (S.N[i]? = some x) && visB S x && noMagic x
def kStx (e : Expr) (f : Expr → Bool) (n : Nat) : Bool := match e with | .Subscript a (.Constant (.int k) _ _) _ => decide (k = (n : Int)) && f a | _ => false
def keysB : List (Option Expr) → List Expr → List (Str × D) → Bool
  | ks, vs, [] => ks.isEmpty && vs.isEmpty
  | some (.Constant (.str x) _ _) :: ks, v :: vs, p :: r => decide (x = p.1) && chkC p.2 v && keysB ks vs r
  | _, _, _ => false
def kDcst (e : Expr) (kvs : List (Str × D)) (f : Expr → Bool) : Bool := match e with | .Subscript (.Dict ks vs _) b _ => noSlice b && keysB ks vs kvs && f b | _ => false
def isYes : IE → Bool
  | .yes => true
  | _ => false
def kIfs (ifs : List Expr) (cond : IE) (f : Expr → Bool) : Bool := match ifs with | [] => isYes cond | [c] => f c | _ => false
def kNil (es : List Expr) : Bool := match es with | [] => true | _ => false
def kCons (es : List Expr) (f : Expr → Bool) (g : List Expr → Bool) : Bool := match es with | e :: es => unstar e && f e && g es | _ => false
def b1Word (f : B1) (G : PG0) (S : SC) (x : Str) : Bool := match b1Fun f with | some (y, _) => bWord G S x y | none => (match b1Ty f with | some (y, _) => bWord G S x y | none => false)
def resOk (m : Mode) (r : Ty) : Bool := match m with
  | .j t => decide (t = r) | .b => decide (r = .p) | .t => decide (r = .p) | .d t => decide (r = if t then .pT else .pK) | .o => false
def tMode (m : Mode) (k : Mode) : Mode := match m with | .t => .t | _ => k
def iteM (m : Mode) : Mode := match m with | .j t => .j t | _ => .j .p
def okI (m : Mode) : Bool := match m with | .j _ => true | .b => true | _ => false
def pM (pure : Bool) : Mode := if pure then .j .p else .b
mutual
def chk (G : PG0) (S : SC) (Γ : List Ty) (m : Mode) : IE → Expr → Bool
  | .v i, e => kV e (chkV S Γ m i)
  | .c d, e => okP m && chkC d e
  | .yes, _ => false
  | .tup es, e => okP m && kTup e (fun es' => chkPs G S Γ es es' && decide (es.length ≤ 1000))
  | .lst es, e => (okP m || decide (m = .o)) && kLst e (fun es' => chkPs G S Γ es es' && decide (es.length ≤ 1000))
  | .bin o a b, e => okP m && kBin o e (fun x => chk G S Γ .b a x) (fun x => chk G S Γ .b b x)
  | .cmp o a b, e => okP m && kCmp o e (fun x => chk G S Γ .b a x) (fun x => chk G S Γ .b b x)
  | .cmp2 o o' a b c, e => okP m && kCmp2 o o' e (fun x => chk G S Γ .b a x) (fun x => chk G S Γ .b b x) (fun x => chk G S Γ .b c x)
  | .isN a, e => okP m && kIs e (fun x => chk G S Γ .b a x)
  | .notN a, e => okP m && kIsNot e (fun x => chk G S Γ .b a x)
  | .and a b, e => okP m && kAnd e (fun x => chk G S Γ (tMode m (.j .p)) a x) (fun x => chk G S Γ (tMode m (.j .p)) b x)
  | .or a b, e => okP m && kOr e (fun x => chk G S Γ (tMode m (.j .p)) a x) (fun x => chk G S Γ (tMode m (.j .p)) b x)
  | .not a, e => okP m && kNot e (fun x => chk G S Γ (tMode m .b) a x)
  | .ite c a b, e => okI m && kIte e (fun x => chk G S Γ .t c x) (fun x => chk G S Γ (iteM m) a x) (fun x => chk G S Γ (iteM m) b x)
  | .ix a b, e => okP m && kIx e (fun x => chk G S Γ .b a x) (fun x => chk G S Γ .b b x)
  | .slF a b, e => okP m && kSlF e (fun x => chk G S Γ .b a x) (fun x => chk G S Γ .b b x)
  | .slT a b, e => okP m && kSlT e (fun x => chk G S Γ .b a x) (fun x => chk G S Γ .b b x)
  | .slB a b c, e => okP m && kSlB e (fun x => chk G S Γ .b a x) (fun x => chk G S Γ .b b x) (fun x => chk G S Γ .b c x)
  | .rev a, e => okP m && kRev e (fun x => chk G S Γ .b a x)
  | .b1 f a, e => okP m && kCall1 e (b1Word f G S) (fun x => chk G S Γ .b a x)
  | .b2 f a b, e => okP m && kCall2 e (fun x => bWord G S x (b2Fun f).1) (fun x => chk G S Γ .b a x) (fun x => chk G S Γ .b b x)
  | .call f es, e => kCall e (fun x => decide (G.fn[f]? = some x) && glB S x) (fun es' => match G.P[f]? with | some fd => resOk m fd.res && chkAs G S Γ es fd.pty es' | none => false)
  | .mth k a es, e => okP m && decide (k = .index) && kIndex e (fun x => chk G S Γ .b a x) (fun x => chkBs G S Γ es [x])
  | .comp own tg k args cond elt, e => (okP m || decide (m = .o)) && (tgSlots tg).all own.contains && kComp e (fun sc => blkB S sc own) (fun sc t => chkTg (S.blk sc) tg t) (fun t it => chkI G S Γ false k args t it)
      (fun sc ifs => kIfs ifs cond fun x => chk G (S.blk sc) (setT tg (unk Γ own)) .t cond x) (fun sc x => chk G (S.blk sc) (setT tg (unk Γ own)) (.j .p) elt x)
  | .comp2 own tg k args cond tg2 k2 args2 cond2 elt, e => (okP m || decide (m = .o)) && ((tgSlots tg).all own.contains && (tgSlots tg2).all own.contains) && kComp2 e (fun sc => blkB S sc own) (fun sc t => chkTg (S.blk sc) tg t) (fun t it => chkI G S Γ false k args t it)
      (fun sc ifs => kIfs ifs cond fun x => chk G (S.blk sc) (setT tg (unk Γ own)) .t cond x) (fun sc t => chkTg (S.blk sc) tg2 t) (fun sc t it => chkI G (S.blk sc) (setT tg (unk Γ own)) true k2 args2 t it)
      (fun sc ifs => kIfs ifs cond2 fun x => chk G (S.blk sc) (setT tg2 (unk (setT tg (unk Γ own)) (tgSlots tg2))) .t cond2 x) (fun sc x => chk G (S.blk sc) (setT tg2 (unk (setT tg (unk Γ own)) (tgSlots tg2))) (.j .p) elt x)
  | .dct _, _ => false
  | .dnew _, _ => false
  | .dix _ _ _, _ => false
  | .din _ _ _ _, _ => false
  | .dget _ _ _ _, _ => false
  | .dlen _ _, _ => false
  | .dcomp _ _ _ _ _ _ _, _ => false
  | .stx i n, e => okP m && decide (ty Γ i = .st) && kStx e (nameB S i) n
  | .clen i, e => okP m && decide (ty Γ i = .cl) && kCall1 e (fun x => bWord G S x "len") (nameB S i)
  | .cix i a, e => okP m && decide (ty Γ i = .cl) && kIx e (nameB S i) (fun x => chk G S Γ .b a x)
  | .dcst kvs a, e => okP m && (kvs.all (fun p => plainC p.2) && decide (0 < kvs.length ∧ kvs.length ≤ 15)) && kDcst e kvs (fun x => chk G S Γ .b a x)
/-- written items: frozen data -/
def chkPs (G : PG0) (S : SC) (Γ : List Ty) : List IE → List Expr → Bool
  | [], es => kNil es
  | a :: as, es => kCons es (fun x => chk G S Γ (.j .p) a x) (fun xs => chkPs G S Γ as xs)
/-- operands -/
def chkBs (G : PG0) (S : SC) (Γ : List Ty) : List IE → List Expr → Bool
  | [], es => kNil es
  | a :: as, es => kCons es (fun x => chk G S Γ .b a x) (fun xs => chkBs G S Γ as xs)
/-- arguments by their kinds -/
def chkAs (G : PG0) (S : SC) (Γ : List Ty) : List IE → List Ty → List Expr → Bool
  | [], ts, es => ts.isEmpty && kNil es
  | a :: as, ts, es => (match ts with | t :: ts => kCons es (fun x => chk G S Γ (.j t) a x) (fun xs => chkAs G S Γ as ts xs) | [] => false)
/-- what is walked: pure, what stays while a body runs -/
def chkI (G : PG0) (S : SC) (Γ : List Ty) (pure : Bool) (k : IK) : List IE → Expr → Expr → Bool
  | [], _, _ => false
  | a :: as, tg, e => (match k with
    | .seq => as.isEmpty && chk G S Γ (pM pure) a e
    | .r1 => as.isEmpty && kCall1 e (fun x => bWord G S x "range") (fun x => chk G S Γ .b a x)
    | .r2 => kCall2 e (fun x => bWord G S x "range") (fun x => chk G S Γ .b a x) (fun x => chkBs G S Γ as [x])
    | .enum => isTup tg && as.isEmpty && kCall1 e (fun x => bWord G S x "enumerate") (fun x => chk G S Γ (pM pure) a x)
    | .zip => isTup tg && kCall2 e (fun x => bWord G S x "zip") (fun x => chk G S Γ (.j .p) a x) (fun x => chkPs G S Γ as [x])
    | .items => false)
end
section
variable {e : Expr} {f g k : Expr → Bool}
theorem and_t {a b : Bool} (h : (a && b) = true) : a = true ∧ b = true := by rwa [Bool.and_eq_true] at h
theorem kV_inv {f : Str → Bool} (h : kV e f = true) : ∃ x p, e = .Name x p ∧ f x = true := by
  unfold kV at h; split at h <;> first | exact ⟨_, _, rfl, h⟩ | cases h
theorem kTup_inv {f : List Expr → Bool} (h : kTup e f = true) : ∃ es j p, e = .Tuple es j p ∧ f es = true := by
  unfold kTup at h; split at h <;> first | exact ⟨_, _, _, rfl, h⟩ | cases h
theorem kLst_inv {f : List Expr → Bool} (h : kLst e f = true) : ∃ es p, e = .List es p ∧ f es = true := by
  unfold kLst at h; split at h <;> first | exact ⟨_, _, rfl, h⟩ | cases h
theorem kBin_inv {o : BOp} (h : kBin o e f g = true) : ∃ a b p, e = .BinOp a (opA o) b p ∧ f a = true ∧ g b = true := by
  unfold kBin at h; split at h <;> first | (obtain ⟨⟨h1, h2⟩, h3⟩ := (by simpa only [Bool.and_eq_true] using h : (_ ∧ _) ∧ _); cases opB_eq h1; exact ⟨_, _, _, rfl, h2, h3⟩) | cases h
theorem kCmp_inv {o : COp} (h : kCmp o e f g = true) : ∃ a b p, e = .Compare a [copA o] [b] p ∧ noSet b = true ∧ f a = true ∧ g b = true := by
  unfold kCmp at h; split at h <;> first | (obtain ⟨⟨⟨h1, h2⟩, h3⟩, h4⟩ := (by simpa only [Bool.and_eq_true] using h : ((_ ∧ _) ∧ _) ∧ _); cases copB_eq h1; exact ⟨_, _, _, rfl, h2, h3, h4⟩) | cases h
theorem kCmp2_inv {o o' : COp} (h : kCmp2 o o' e f g k = true) : ∃ a b c p, e = .Compare a [copA o, copA o'] [b, c] p ∧ noSet c = true ∧ f a = true ∧ g b = true ∧ k c = true := by
  unfold kCmp2 at h; split at h <;> first | (obtain ⟨⟨⟨⟨⟨h1, h2⟩, h3⟩, h4⟩, h5⟩, h6⟩ := (by simpa only [Bool.and_eq_true] using h : ((((_ ∧ _) ∧ _) ∧ _) ∧ _) ∧ _); cases copB_eq h1; cases copB_eq h2; exact ⟨_, _, _, _, rfl, h3, h4, h5, h6⟩) | cases h
theorem kIs_inv (h : kIs e f = true) : ∃ a j p p', e = .Compare a [.Is] [.Constant .none j p] p' ∧ f a = true := by
  unfold kIs at h; split at h <;> first | exact ⟨_, _, _, _, rfl, h⟩ | cases h
theorem kIsNot_inv (h : kIsNot e f = true) : ∃ a j p p', e = .Compare a [.IsNot] [.Constant .none j p] p' ∧ f a = true := by
  unfold kIsNot at h; split at h <;> first | exact ⟨_, _, _, _, rfl, h⟩ | cases h
theorem kAnd_inv (h : kAnd e f g = true) : ∃ a b rest p, e = .BoolOp .And (a :: b :: rest) p ∧ f a = true ∧ ((rest = [] ∧ g b = true) ∨ g (.BoolOp .And (b :: rest) p) = true) := by
  unfold kAnd at h
  split at h
  · obtain ⟨h1, h2⟩ := and_t h
    refine ⟨_, _, _, _, rfl, h1, ?_⟩
    split at h2
    · rename_i q; exact .inl ⟨List.isEmpty_iff.mp q, h2⟩
    · exact .inr h2
  · cases h
theorem kOr_inv (h : kOr e f g = true) : ∃ a b rest p, e = .BoolOp .Or (a :: b :: rest) p ∧ f a = true ∧ ((rest = [] ∧ g b = true) ∨ g (.BoolOp .Or (b :: rest) p) = true) := by
  unfold kOr at h
  split at h
  · obtain ⟨h1, h2⟩ := and_t h
    refine ⟨_, _, _, _, rfl, h1, ?_⟩
    split at h2
    · rename_i q; exact .inl ⟨List.isEmpty_iff.mp q, h2⟩
    · exact .inr h2
  · cases h
theorem kNot_inv (h : kNot e f = true) : ∃ a p, e = .UnaryOp .Not a p ∧ f a = true := by
  unfold kNot at h; split at h <;> first | exact ⟨_, _, rfl, h⟩ | cases h
theorem kIte_inv (h : kIte e f g k = true) : ∃ c a b p, e = .IfExp c a b p ∧ f c = true ∧ g a = true ∧ k b = true := by
  unfold kIte at h; split at h <;> first | (obtain ⟨h1, h3⟩ := and_t h; obtain ⟨h1, h2⟩ := and_t h1; exact ⟨_, _, _, _, rfl, h1, h2, h3⟩) | cases h
theorem kIx_inv (h : kIx e f g = true) : ∃ a b p, e = .Subscript a b p ∧ noSlice b = true ∧ f a = true ∧ g b = true := by
  unfold kIx at h; split at h <;> first | (obtain ⟨h1, h3⟩ := and_t h; obtain ⟨h1, h2⟩ := and_t h1; exact ⟨_, _, _, rfl, h1, h2, h3⟩) | cases h
theorem kSlF_inv (h : kSlF e f g = true) : ∃ a b p p', e = .Subscript a (.Slice (some b) none none p) p' ∧ f a = true ∧ g b = true := by
  unfold kSlF at h; split at h <;> first | (obtain ⟨h1, h2⟩ := and_t h; exact ⟨_, _, _, _, rfl, h1, h2⟩) | cases h
theorem kSlT_inv (h : kSlT e f g = true) : ∃ a b p p', e = .Subscript a (.Slice none (some b) none p) p' ∧ f a = true ∧ g b = true := by
  unfold kSlT at h; split at h <;> first | (obtain ⟨h1, h2⟩ := and_t h; exact ⟨_, _, _, _, rfl, h1, h2⟩) | cases h
theorem kSlB_inv (h : kSlB e f g k = true) : ∃ a b c p p', e = .Subscript a (.Slice (some b) (some c) none p) p' ∧ f a = true ∧ g b = true ∧ k c = true := by
  unfold kSlB at h; split at h <;> first | (obtain ⟨h1, h3⟩ := and_t h; obtain ⟨h1, h2⟩ := and_t h1; exact ⟨_, _, _, _, _, rfl, h1, h2, h3⟩) | cases h
theorem kRev_inv (h : kRev e f = true) : ∃ a j p1 p2 p3 p, e = .Subscript a (.Slice none none (some (.UnaryOp .USub (.Constant (.int 1) j p1) p2)) p3) p ∧ f a = true := by
  unfold kRev at h; split at h <;> first | (obtain ⟨h1, h2⟩ := and_t h; cases of_decide_eq_true h1; exact ⟨_, _, _, _, _, _, rfl, h2⟩) | cases h
theorem kCall1_inv {f : Str → Bool} (h : kCall1 e f g = true) : ∃ x p a p', e = .Call (.Name x p) [a] [] p' ∧ unstar a = true ∧ f x = true ∧ g a = true := by
  unfold kCall1 at h; split at h <;> first | (obtain ⟨h1, h3⟩ := and_t h; obtain ⟨h1, h2⟩ := and_t h1; exact ⟨_, _, _, _, rfl, h1, h2, h3⟩) | cases h
theorem kCall2_inv {f : Str → Bool} (h : kCall2 e f g k = true) : ∃ x p a b p', e = .Call (.Name x p) [a, b] [] p' ∧ unstar a = true ∧ unstar b = true ∧ f x = true ∧ g a = true ∧ k b = true := by
  unfold kCall2 at h; split at h <;> first | (obtain ⟨h1, h5⟩ := and_t h; obtain ⟨h1, h4⟩ := and_t h1; obtain ⟨h1, h3⟩ := and_t h1; obtain ⟨h1, h2⟩ := and_t h1; exact ⟨_, _, _, _, _, rfl, h1, h2, h3, h4, h5⟩) | cases h
theorem kCall_inv {f : Str → Bool} {g : List Expr → Bool} (h : kCall e f g = true) : ∃ x p es p', e = .Call (.Name x p) es [] p' ∧ es.all unstar = true ∧ noMagic x = true ∧ f x = true ∧ g es = true := by
  unfold kCall at h; split at h <;> first | (obtain ⟨h1, h4⟩ := and_t h; obtain ⟨h1, h3⟩ := and_t h1; obtain ⟨h1, h2⟩ := and_t h1; exact ⟨_, _, _, _, rfl, h1, h2, h3, h4⟩) | cases h
theorem kIndex_inv (h : kIndex e f g = true) : ∃ a ap b cp, e = .Call (.Attribute a "index" ap) [b] [] cp ∧ plainBase a = true ∧ unstar b = true ∧ (ap.endLine == cp.line) = true ∧ f a = true ∧ g b = true := by
  unfold kIndex at h; split at h <;> first | (obtain ⟨h1, h6⟩ := and_t h; obtain ⟨h1, h5⟩ := and_t h1; obtain ⟨h1, h4⟩ := and_t h1; obtain ⟨h1, h3⟩ := and_t h1; obtain ⟨h1, h2⟩ := and_t h1; cases eq_of_beq h1; exact ⟨_, _, _, _, rfl, h2, h3, h4, h5, h6⟩) | cases h
theorem kComp_inv {f : Scope → Bool} {g : Scope → Expr → Bool} {k : Expr → Expr → Bool} {c : Scope → List Expr → Bool} {w : Scope → Expr → Bool} (h : kComp e f g k c w = true) :
    ∃ elt tg it ifs sc p, e = .ListComp elt [⟨tg, it, ifs, 0⟩] sc p ∧ f sc = true ∧ noSet it = true ∧ g sc tg = true ∧ k tg it = true ∧ c sc ifs = true ∧ w sc elt = true := by
  unfold kComp at h; split at h <;> first | (obtain ⟨h1, h6⟩ := and_t h; obtain ⟨h1, h5⟩ := and_t h1; obtain ⟨h1, h4⟩ := and_t h1; obtain ⟨h1, h3⟩ := and_t h1; obtain ⟨h1, h2⟩ := and_t h1; exact ⟨_, _, _, _, _, _, rfl, h1, h2, h3, h4, h5, h6⟩) | cases h
theorem kComp2_inv {f : Scope → Bool} {g : Scope → Expr → Bool} {k : Expr → Expr → Bool} {c : Scope → List Expr → Bool} {g2 : Scope → Expr → Bool} {k2 : Scope → Expr → Expr → Bool} {c2 : Scope → List Expr → Bool} {w : Scope → Expr → Bool} (h : kComp2 e f g k c g2 k2 c2 w = true) :
    ∃ elt tg it ifs tg2 it2 ifs2 sc p, e = .ListComp elt [⟨tg, it, ifs, 0⟩, ⟨tg2, it2, ifs2, 0⟩] sc p ∧ f sc = true ∧ noSet it = true ∧ g sc tg = true ∧ k tg it = true ∧ c sc ifs = true ∧ noSet it2 = true ∧ g2 sc tg2 = true ∧ k2 sc tg2 it2 = true ∧ c2 sc ifs2 = true ∧ w sc elt = true := by
  unfold kComp2 at h; split at h <;> first | (obtain ⟨h1, h6⟩ := and_t h; obtain ⟨h1, h5⟩ := and_t h1; obtain ⟨h1, h4⟩ := and_t h1; obtain ⟨h1, h3⟩ := and_t h1; obtain ⟨h1, h2⟩ := and_t h1; obtain ⟨h6, h10⟩ := and_t h6; obtain ⟨h6, h9⟩ := and_t h6; obtain ⟨h6, h8⟩ := and_t h6; obtain ⟨h6, h7⟩ := and_t h6; exact ⟨_, _, _, _, _, _, _, _, _, rfl, h1, h2, h3, h4, h5, h6, h7, h8, h9, h10⟩) | cases h
theorem kStx_inv {n : Nat} (h : kStx e f n = true) : ∃ a j p p', e = .Subscript a (.Constant (.int (n : Nat)) j p) p' ∧ f a = true := by
  unfold kStx at h; split at h <;> first | (obtain ⟨h1, h2⟩ := and_t h; cases of_decide_eq_true h1; exact ⟨_, _, _, _, rfl, h2⟩) | cases h
theorem kDcst_inv {kvs : List (Str × D)} (h : kDcst e kvs f = true) : ∃ ks vs p b p', e = .Subscript (.Dict ks vs p) b p' ∧ noSlice b = true ∧ keysB ks vs kvs = true ∧ f b = true := by
  unfold kDcst at h; split at h <;> first | (obtain ⟨h1, h3⟩ := and_t h; obtain ⟨h1, h2⟩ := and_t h1; exact ⟨_, _, _, _, _, rfl, h1, h2, h3⟩) | cases h
theorem kNil_inv {es : List Expr} (h : kNil es = true) : es = [] := by
  unfold kNil at h; split at h <;> first | rfl | cases h
theorem kCons_inv {es : List Expr} {g : List Expr → Bool} (h : kCons es f g = true) : ∃ a as, es = a :: as ∧ unstar a = true ∧ f a = true ∧ g as = true := by
  unfold kCons at h; split at h <;> first | (obtain ⟨h1, h3⟩ := and_t h; obtain ⟨h1, h2⟩ := and_t h1; exact ⟨_, _, rfl, h1, h2, h3⟩) | cases h
end
end Ev
set_option Elab.async false
set_option linter.all false
set_option maxRecDepth 100000
set_option autoImplicit false
/-! Ev14: what the look has seen is sound: expressions. -/
namespace Ev
open PySem PySem.Spec PyProof.Rows L2
structure CO (G : PG0) (n : Nat) (X : Cx) (S : SC) : Prop where
  N : X.N = S.N
  nd : S.N.Nodup
  nm : X.env.scope.names = S.nm
  kd : X.env.scope.kind = .function
  calm : X.calm = true
  xe : X.xe = fun _ _ => False
  room : Room n X.A
  fn : ∀ x, (match S.bn with | none => True | some l => l.lookup x = some NameKind.cell) → X.fn x = true
  bl : ∀ x ∈ G.bl, X.mg x = none
  calls : ∀ f fd x, G.P[f]? = some fd → G.fn[f]? = some x → ∃ fa fdt ps, FnOk X.prog X.w X.K X.mg X.base CX0 n fa fdt ps (spC (callF G.P n) fd.pty fd.res f) ∧ X.mg x = some (.ref fa) ∧ PySem.W.keepIn X.K (.ref fa) = true ∧ Binds X.K fdt ps []
def isBoolOp : Expr → Bool
  | .BoolOp .. => true
  | _ => false
def Good (cf : CF) (Γ : List Ty) (X : Cx) : Mode → IE → Expr → Prop
  | .j t, ie, e => PE X e (tJ cf Γ ie t)
  | .b, ie, e => PE X e (tB cf Γ ie)
  | .d t, ie, e => PE X e (tD cf Γ t ie)
  | .t, ie, e => PT X e (tT cf Γ ie) ∧ (isBoolOp e = true → PW X e (tT cf Γ ie))
  | .o, ie, e => PE X e (tO cf Γ ie)
def valTest : Expr → Bool
  | .UnaryOp .Not _ _ => false
  | .BoolOp .. => false
  | .IfExp .. => false
  | .Compare .. => false
  | _ => true
theorem val_isTrue {e : Expr} (h : valTest e = true) (env : PySem.Env) (whole : Sem Value) : isTrue e env whole = (do let v ← whole; standAt e.pos; holding [v] (truthy v)) := by
  cases e with
  | UnaryOp op x p => cases op <;> first | rfl | cases h
  | BoolOp => cases h
  | IfExp => cases h
  | Compare => cases h
  | _ => rfl
section
variable {cf : CF} {Γ : List Ty} {X : Cx} {G : PG0} {n : Nat} {S : SC}
theorem val_nb {e : Expr} (h : valTest e = true) : isBoolOp e = false := by
  cases e <;> first | rfl | cases h
theorem pt_nb {e : Expr} {t : TT} (h : PT X e t) (hn : isBoolOp e = false) : PT X e t ∧ (isBoolOp e = true → PW X e t) := ⟨h, fun q => by rw [hn] at q; cases q⟩
theorem good_p {m : Mode} {ie : IE} {e : Expr} (hm : okP m = true) (h : PE X e (tJ cf Γ ie .p)) (hv : valTest e = true) : Good cf Γ X m ie e := by
  cases m with
  | j t => cases t <;> first | exact h | cases hm
  | b => exact jb_of h
  | t => exact pt_nb (jt_val (jb_of h) (val_isTrue hv _)) (val_nb hv)
  | _ => cases hm
theorem good_t {m : Mode} {ie : IE} {e : Expr} (hm : okP m = true) (h : PE X e (tJ cf Γ ie .p)) (ht : PT X e (tT cf Γ ie)) (hn : isBoolOp e = false) : Good cf Γ X m ie e := by
  cases m with
  | j t => cases t <;> first | exact h | cases hm
  | b => exact jb_of h
  | t => exact pt_nb ht hn
  | _ => cases hm
theorem CO.hu (c : CO G n X S) : X.A.units + 150 < cLine := by
  have := c.room.un
  omega
theorem CO.vis (c : CO G n X S) {x : Str} (h : visB S x = true) : Vis X.env.scope x := by
  unfold Vis
  rw [c.nm]
  unfold visB at h
  split at h
  · rename_i e; exact .inl e
  · rename_i e; exact .inr (.inl e)
  · rename_i e; exact .inr (.inr e)
  · cases h
theorem CO.loc (c : CO G n X S) {x : Str} (h : locB S x = true) : L2.Loc X.env.scope x ∧ (X.fn x = true ∨ X.env.scope.names.lookup x = some .local) := by
  unfold L2.Loc
  rw [c.nm]
  unfold locB at h
  split at h
  · rename_i e; exact ⟨.inl e, .inr e⟩
  · rename_i e
    refine ⟨.inr e, .inl (c.fn x ?_)⟩
    cases q : S.bn with
    | none => trivial
    | some l =>
      rw [q] at h
      exact of_decide_eq_true h
  · cases h
theorem CO.gl (c : CO G n X S) {x : Str} (h : glB S x = true) : Gl X x := by
  unfold Gl Env.kindOf
  rw [c.nm]
  exact of_decide_eq_true h
theorem magic_of {x : Str} (h : noMagic x = true) : (x == ("__debug__" : Str)) = false ∧ (x == ("__classdict__" : Str)) = false := by
  unfold noMagic at h
  simpa using h
theorem CO.var (c : CO G n X S) {i : Nat} {x : Str} {pos : Pos} (h1 : S.N[i]? = some x) (h2 : visB S x = true) (h3 : noMagic x = true) : PE X (.Name x pos) (tVar i) :=
  pe_var (by rw [c.N]; exact h1) (c.vis h2) (magic_of h3).1 (magic_of h3).2
theorem good_v (c : CO G n X S) {m : Mode} {i : Nat} {x : Str} {pos : Pos} (h : chkV S Γ m i x = true) : Good cf Γ X m (.v i) (.Name x pos) := by
  unfold chkV at h
  simp only [Bool.and_eq_true, decide_eq_true_eq] at h
  obtain ⟨⟨⟨h1, h2⟩, h3⟩, h4⟩ := h
  have hv := c.var (pos := pos) h1 h2 h3
  cases m with
  | j t =>
    simp only [Bool.and_eq_true, Bool.or_eq_true, decide_eq_true_eq] at h4
    exact je_v hv h4.1 (by rcases h4.2 with ((h | h) | h) | h <;> simp [h])
  | b => exact jb_v hv (by simpa using h4)
  | t => exact pt_nb (jt_val (jb_v hv (by simpa using h4)) (val_isTrue rfl _)) rfl
  | d t => exact jd_v hv (by simpa using h4)
  | o => cases h4
theorem good_c {m : Mode} {d : D} {e : Expr} (hm : okP m = true) (h : chkC d e = true) : Good cf Γ X m (.c d) e := by
  unfold chkC at h
  split at h
  · split at h <;> first | cases h | skip
    cases of_decide_eq_true h
    exact good_p hm (je_c pe_int fun B => .int _) rfl
  · split at h <;> first | cases h | skip
    cases of_decide_eq_true h
    exact good_p hm (je_c pe_bl fun B => .bl _) rfl
  · split at h <;> first | cases h | skip
    exact good_p hm (je_c pe_non fun B => .non) rfl
  · split at h <;> first | cases h | skip
    rw [Bool.and_eq_true, decide_eq_true_eq] at h
    obtain ⟨rfl, h2⟩ := h
    exact good_p hm (je_c pe_str fun B => .str _ h2) rfl
  · split at h <;> first | cases h | skip
    cases of_decide_eq_true h
    refine good_p hm (je_c (PEw (t' := tC (.int _)) (pe_un un_neg pe_int) fun σ H Q q => ?_) fun B => .int _) rfl
    exact ⟨_, rfl, q⟩
  · cases h
theorem noSet_ne {e : Expr} (h : noSet e = true) : ∀ es k p, e ≠ .Set es k p := fun es k p z => by
  subst z
  cases h
/-! ### blocks -/
theorem ownOf_snd (S : SC) (own : List Nat) : (ownOf S own).map (·.2) = own := by
  unfold ownOf
  rw [List.map_map]
  induction own with
  | nil => rfl
  | cons a r ih => rw [List.map_cons, ih]; rfl
theorem blk_ok (c : CO G n X S) {scope : Scope} {own : List Nat} (h : blkB S scope own = true) : BlkOk X.N X.env.scope scope (ownOf S own) := by
  unfold blkB at h
  simp only [Bool.and_eq_true, decide_eq_true_eq, List.all_eq_true] at h
  obtain ⟨⟨⟨⟨h1, h2⟩, h3⟩, h4⟩, h5⟩ := h
  refine ⟨h1, h2, fun p hp => ?_, fun y hy e => ?_, fun y hy e => ?_⟩
  · unfold ownOf at hp
    obtain ⟨i, hi, rfl⟩ := List.mem_map.mp hp
    have hl := h3 i hi
    rw [c.N]
    show S.N[i]? = some (S.N.getD i _)
    rw [List.getD_eq_getElem?_getD, List.getElem?_eq_getElem hl]
    rfl
  · have q := h4 y hy
    rw [e] at q
    rw [c.nm]
    simpa using q
  · have q := h5 y hy
    have e' : (y.2 == NameKind.local || y.2 == NameKind.cell) = true := by
      rcases e with e | e <;> rw [e] <;> rfl
    rw [e', if_pos rfl] at q
    rw [Bool.or_eq_true] at q
    rcases q with q | q
    · left
      rw [List.any_eq_true] at q
      obtain ⟨p, hp, hpe⟩ := q
      exact List.mem_map.mpr ⟨p, hp, by simpa using hpe⟩
    · right
      rw [c.N]
      intro hm
      rw [List.contains_iff_mem.mpr hm] at q
      cases q
theorem blk_co (c : CO G n X S) {scope : Scope} {own : List Nat} (h : blkB S scope own = true) (s : Shared) (H : Hp) (C : Addr) (cl : List (Str × Addr)) (fp : List Addr) : CO G n (X.blk s H scope (compEnvC scope cl C X.env) fp) (S.blk scope) := by
  have hk : scope.kind = .function := by
    unfold blkB at h
    simp only [Bool.and_eq_true, decide_eq_true_eq] at h
    exact h.1.1.1.1
  refine ⟨c.N, c.nd, ?_, hk, c.calm, rfl, c.room, fun x hx => ?_, c.bl, c.calls⟩
  · show (scope.names.map fun (p : Str × NameKind) => if (p.2 == NameKind.free && X.env.scope.kind == .function && X.env.kindOf p.1 == some .cell) then (p.1, NameKind.cell) else (p.1, p.2)) = relN scope.names S.nm
    unfold relN
    apply List.map_congr_left
    intro p _
    have e1 : X.env.kindOf p.1 = S.nm.lookup p.1 := by unfold Env.kindOf; rw [c.nm]
    rw [c.kd, e1]
    simp
  · show (scope.names.lookup x == some NameKind.cell) = true
    have hx : scope.names.lookup x = some NameKind.cell := hx
    rw [hx]
    rfl
/-! ### targets -/
mutual
theorem tg_ok (c : CO G n X S) : ∀ (t : Tg) (e : Expr), chkTg S t e = true → PG X e (gT t)
  | .n i, e, h => by
    simp only [chkTg] at h
    split at h
    · simp only [Bool.and_eq_true, decide_eq_true_eq] at h
      obtain ⟨h1, h2⟩ := c.loc h.2
      exact gt_n (pg_name (by rw [c.N]; exact c.nd) (by rw [c.N]; exact h.1) h1 h2)
    · cases h
  | .t ts, e, h => by
    simp only [chkTg] at h
    split at h
    · obtain ⟨h1, h2, h3⟩ := tgs_ok c ts _ h
      exact gt_t c.calm h1 h2 h3
    · cases h
  | .l ts, e, h => by
    simp only [chkTg] at h
    split at h
    · obtain ⟨h1, h2, h3⟩ := tgs_ok c ts _ h
      exact gt_l c.calm h1 h2 h3
    · cases h
theorem tgs_ok (c : CO G n X S) : ∀ (ts : List Tg) (es : List Expr), chkTgs S ts es = true → PGs X es (gTs ts) ∧ es.all unstar = true ∧ es.length = ts.length
  | [], es, h => by
    simp only [chkTgs] at h
    split at h
    · exact ⟨gt_nil, rfl, rfl⟩
    · cases h
  | t :: ts, es, h => by
    simp only [chkTgs] at h
    split at h
    · rename_i e es
      simp only [Bool.and_eq_true] at h
      obtain ⟨h1, h2, h3⟩ := tgs_ok c ts es h.2
      refine ⟨gt_cons (tg_ok c t e h.1.2) h1 ?_, by rw [List.all_cons, h.1.1, h2]; rfl, by rw [List.length_cons, List.length_cons, h3]⟩
      have := h.1.1
      cases e <;> first | rfl | cases this
    · cases h
end
theorem word_ok (c : CO G n X S) {x y : Str} (h : bWord G S x y = true) : x = y ∧ Gl X x ∧ X.mg x = none := by
  unfold bWord at h
  simp only [Bool.and_eq_true, beq_iff_eq] at h
  exact ⟨h.1.1, c.gl h.1.2, c.bl x (List.contains_iff_mem.mp h.2)⟩
theorem tup_of {tg : Expr} (h : isTup tg = true) : ∃ es k p, tg = .Tuple es k p := by
  cases tg <;> first | exact ⟨_, _, _, rfl⟩ | cases h
end
end Ev
set_option Elab.async false
set_option linter.all false
set_option maxRecDepth 100000
set_option autoImplicit false
/-! Ev15: what the look has seen is sound. -/
namespace Ev
open PySem PySem.Spec PyProof.Rows L2
theorem folded_ok {e : Expr} (h : noSet e = true) (env : PySem.Env) (x : Value) : foldedSetIterable e env x = pure x := by
  unfold foldedSetIterable
  cases e <;> first | rfl | cases h
section
variable {cf : CF} {Γ : List Ty} {X : Cx}
theorem tt_yes {own : List Nat} : ∀ {σ : L2.St} {H : Hp} {Q : Bool → Hp → Prop}, tT cf Γ .yes σ H Q → tYes σ H Q := by
  intro σ H Q ⟨W, fp, γ, τ, b, τ', w, sl, e, q⟩
  simp only [tst, evalE, Option.bind_some, truth, Option.map_some, Option.some.injEq, Prod.mk.injEq] at e
  obtain ⟨rfl, rfl⟩ := e
  exact q W H (FrE.refl W H) w
theorem PTsw {ifs : List Expr} {t t' : TT} (h : PTs X ifs t) (w : ∀ σ H Q, t' σ H Q → t σ H Q) : PTs X ifs t' := ⟨fun pins s σ H Q I h' => h.run pins s σ H Q I (w σ H Q h')⟩
theorem ifs_ok {ifs : List Expr} {cond : IE} {f : Expr → Bool} (h : kIfs ifs cond f = true) (ih : ∀ e, f e = true → PT X e (tT cf Γ cond)) : PTs X ifs (tT cf Γ cond) := by
  unfold kIfs at h
  split at h
  · unfold isYes at h
    split at h
    · exact PTsw pts_nil fun σ H Q q => tt_yes (own := []) q
    · cases h
  · exact pts_one (ih _ h)
  · cases h
theorem all_sub {a b : List Nat} (h : a.all b.contains = true) : ∀ i ∈ a, i ∈ b := fun i m => by
  rw [List.all_eq_true] at h
  exact List.contains_iff_mem.mp (h i m)
theorem okP_cases {m : Mode} (h : okP m = true) : m = .j .p ∨ m = .b ∨ m = .t := by
  cases m with
  | j t => cases t <;> first | exact .inl rfl | cases h
  | b => exact .inr (.inl rfl)
  | t => exact .inr (.inr rfl)
  | _ => cases h
theorem okPo_cases {m : Mode} (h : (okP m || decide (m = .o)) = true) : okP m = true ∨ m = .o := by
  simpa using h
theorem good_o {m : Mode} {ie : IE} {e : Expr} (hm : okP m = true ∨ m = .o) (h : PE X e (tO cf Γ ie)) (hv : valTest e = true) : Good cf Γ X m ie e := by
  rcases hm with hm | rfl
  · exact good_p hm (jo_j h) hv
  · exact h
end
section
variable {G : PG0} {n : Nat}
theorem CO.call1 {X : Cx} {S : SC} {Γ : List Ty} (c : CO G n X S) {m : Mode} {f : Nat} {es : List IE} {x : Str} {p p' : Pos} {es' : List Expr} {fd : Fd} (h1 : es'.all unstar = true) (h2 : noMagic x = true) (h3 : G.fn[f]? = some x) (h4 : glB S x = true) (hf : G.P[f]? = some fd) (hm : resOk m fd.res = true)
    (ha : PA X es' (tJs (callF G.P n) Γ es fd.pty)) (hl : es'.length = es.length ∧ es.length = fd.pty.length) : Good (callF G.P n) Γ X m (.call f es) (.Call (.Name x p) es' [] p') := by
  obtain ⟨fa, fdt, ps, F, hmg, hk, hb⟩ := c.calls f fd x hf h3
  have main : PE X (.Call (.Name x p) es' [] p') (tJ (callF G.P n) Γ (.call f es) fd.res) := by
    cases es' with
    | nil =>
      cases es with
      | nil =>
        have e0 : fd.pty = [] := List.length_eq_zero_iff.mp hl.2.symm
        rw [e0] at F
        exact je_call0 F c.room (c.gl h4) hmg hk hb (magic_of h2).1
      | cons a as => cases hl.1
    | cons e es' =>
      rw [List.all_cons] at h1
      obtain ⟨q1, q2⟩ := and_t h1
      exact je_call F c.room (c.gl h4) hmg hk hb ha (magic_of h2).1 (star_cons q1 es' _) (star_any q2 _ _)
  cases m with
  | j t =>
    cases of_decide_eq_true hm
    exact main
  | b =>
    have e : fd.res = .p := of_decide_eq_true hm
    rw [e] at main
    exact jb_of main
  | t =>
    have e : fd.res = .p := of_decide_eq_true hm
    rw [e] at main
    exact pt_nb (jt_val (jb_of main) (val_isTrue rfl _)) rfl
  | d t =>
    have e : fd.res = if t then .pT else .pK := of_decide_eq_true hm
    rw [e] at main
    exact jd_of main
  | o => cases hm
/-- the clauses of a comprehension, brought together -/
theorem comp_ok {X : Cx} {S : SC} {Γ : List Ty} (c : CO G n X S) {own : List Nat} {tg : Tg} {k : IK} {args : List IE} {cond elt : IE} {elt' tg' it' : Expr} {ifs' : List Expr} {sc : Scope} {pos : Pos} (hb : blkB S sc own = true) (hn : noSet it' = true) (hown : ∀ i ∈ tgSlots tg, i ∈ own)
    (ht : chkTg (S.blk sc) tg tg' = true) (hi : PI X tg' it' (tIB (callF G.P n) Γ k args))
    (hc : ∀ {X' : Cx}, CO G n X' (S.blk sc) → PTs X' ifs' (tT (callF G.P n) (setT tg (unk Γ own)) cond)) (he : ∀ {X' : Cx}, CO G n X' (S.blk sc) → PE X' elt' (tJ (callF G.P n) (setT tg (unk Γ own)) elt .p)) :
    PE X (.ListComp elt' [⟨tg', it', ifs', 0⟩] sc pos) (tO (callF G.P n) Γ (.comp own tg k args cond elt)) := by
  have q := pe_lc (pos := pos) c.calm (by rw [c.N]; exact c.nd) hi (blk_ok c hb) (fun s H C cl fp => tg_ok (blk_co c hb s H C cl fp) tg tg' ht) (fun s H C cl fp => hc (blk_co c hb s H C cl fp)) (fun s H C cl fp => he (blk_co c hb s H C cl fp)) (fun x => folded_ok hn _ x)
  rw [ownOf_snd] at q
  exact PEw q fun σ H Q h => lc_runO hown h
theorem comp2_ok {X : Cx} {S : SC} {Γ : List Ty} (c : CO G n X S) {own : List Nat} {tg tg2 : Tg} {k k2 : IK} {args args2 : List IE} {cond cond2 elt : IE} {elt' tg' it' tg2' it2' : Expr} {ifs' ifs2' : List Expr} {sc : Scope} {pos : Pos} (hb : blkB S sc own = true) (hn : noSet it' = true) (hn2 : noSet it2' = true) (hown : ∀ i ∈ tgSlots tg, i ∈ own) (hown2 : ∀ i ∈ tgSlots tg2, i ∈ own)
    (ht : chkTg (S.blk sc) tg tg' = true) (ht2 : chkTg (S.blk sc) tg2 tg2' = true) (hi : PI X tg' it' (tIB (callF G.P n) Γ k args)) (hi2 : ∀ {X' : Cx}, CO G n X' (S.blk sc) → PI X' tg2' it2' (tI (callF G.P n) (setT tg (unk Γ own)) k2 args2))
    (hc : ∀ {X' : Cx}, CO G n X' (S.blk sc) → PTs X' ifs' (tT (callF G.P n) (setT tg (unk Γ own)) cond)) (hc2 : ∀ {X' : Cx}, CO G n X' (S.blk sc) → PTs X' ifs2' (tT (callF G.P n) (setT tg2 (unk (setT tg (unk Γ own)) (tgSlots tg2))) cond2))
    (he : ∀ {X' : Cx}, CO G n X' (S.blk sc) → PE X' elt' (tJ (callF G.P n) (setT tg2 (unk (setT tg (unk Γ own)) (tgSlots tg2))) elt .p)) :
    PE X (.ListComp elt' [⟨tg', it', ifs', 0⟩, ⟨tg2', it2', ifs2', 0⟩] sc pos) (tO (callF G.P n) Γ (.comp2 own tg k args cond tg2 k2 args2 cond2 elt)) := by
  have q := pe_lc2 (pos := pos) (vs1 := tgSlots tg2) c.calm (by rw [c.N]; exact c.nd) hi (blk_ok c hb) (by rw [ownOf_snd]; exact hown2) (fun s H C cl fp => tg_ok (blk_co c hb s H C cl fp) tg tg' ht) (fun s H C cl fp => hc (blk_co c hb s H C cl fp)) (fun s H C cl fp => hi2 (blk_co c hb s H C cl fp))
    (fun s H C cl fp => tg_ok (blk_co c hb s H C cl fp) tg2 tg2' ht2) (fun s H C cl fp => hc2 (blk_co c hb s H C cl fp)) (fun s H C cl fp => he (blk_co c hb s H C cl fp)) (fun x => folded_ok hn _ x) (fun env x => folded_ok hn2 env x)
  rw [ownOf_snd] at q
  exact PEw q fun σ H Q h => lc2_runO hown (fun i m => m) h
theorem name_ok {X : Cx} {S : SC} (c : CO G n X S) {i : Nat} {e : Expr} (h : nameB S i e = true) : PE X e (tVar i) := by
  obtain ⟨x, p, rfl, h⟩ := kV_inv (show kV e _ = true from h)
  obtain ⟨h1, h3⟩ := and_t h
  obtain ⟨h1, h2⟩ := and_t h1
  exact c.var (of_decide_eq_true h1) h2 h3
theorem pe_chkC {X : Cx} {d : D} {e : Expr} (h : chkC d e = true) : PE X e (tC (cV d)) := by
  unfold chkC at h
  split at h
  · split at h <;> first | cases h | skip
    cases of_decide_eq_true h
    exact pe_int
  · split at h <;> first | cases h | skip
    cases of_decide_eq_true h
    exact pe_bl
  · split at h <;> first | cases h | skip
    exact pe_non
  · split at h <;> first | cases h | skip
    rw [Bool.and_eq_true, decide_eq_true_eq] at h
    obtain ⟨rfl, h2⟩ := h
    exact pe_str
  · split at h <;> first | cases h | skip
    cases of_decide_eq_true h
    exact PEw (pe_un un_neg pe_int) fun σ H Q q => ⟨_, rfl, q⟩
  · cases h
theorem keys_ok {X : Cx} {p : Pos} : ∀ {ks : List (Option Expr)} {vs : List Expr} {kvs : List (Str × D)}, keysB ks vs kvs = true → PPs X p ks vs (tcs kvs) ∧ ks.all (·.isSome) = true ∧ ks.length = vs.length ∧ ks.length = kvs.length
  | ks, vs, [], h => by
    obtain ⟨h1, h2⟩ := and_t (show (ks.isEmpty && vs.isEmpty) = true by cases ks <;> exact h)
    cases List.isEmpty_iff.mp h1
    cases List.isEmpty_iff.mp h2
    exact ⟨pps_nil, rfl, rfl, rfl⟩
  | ks, vs, q :: r, h => by
    unfold keysB at h
    split at h
    · rename_i e0
      cases e0
    · rename_i e0
      cases e0
      obtain ⟨h, h3⟩ := and_t h
      obtain ⟨h1, h2⟩ := and_t h
      obtain ⟨a1, a2, a3, a4⟩ := keys_ok (X := X) (p := p) h3
      cases of_decide_eq_true h1
      exact ⟨pps_cons pe_str (pe_chkC h2) a1, by rw [List.all_cons, a2]; rfl, by rw [List.length_cons, List.length_cons, a3], by rw [List.length_cons, List.length_cons, a4]⟩
    · cases h
mutual
theorem chk_ok : ∀ (ie : IE) {S : SC} {X : Cx} {Γ : List Ty} {m : Mode} {e : Expr}, CO G n X S → chk G S Γ m ie e = true → Good (callF G.P n) Γ X m ie e
  | .v i, S, X, Γ, m, e, c, h => by
    have h : kV e (chkV S Γ m i) = true := h
    obtain ⟨x, p, rfl, h⟩ := kV_inv h
    exact good_v c h
  | .c d, S, X, Γ, m, e, c, h => by
    have h : (okP m && chkC d e) = true := h
    obtain ⟨h1, h2⟩ := and_t h
    exact good_c h1 h2
  | .yes, S, X, Γ, m, e, c, h => nomatch h
  | .tup es, S, X, Γ, m, e, c, h => by
    have h : (okP m && kTup e (fun es' => chkPs G S Γ es es' && decide (es.length ≤ 1000))) = true := h
    obtain ⟨hm, h⟩ := and_t h
    obtain ⟨es', j, p, rfl, h⟩ := kTup_inv h
    obtain ⟨h1, h2⟩ := and_t h
    exact good_p hm (je_tup (chkPs_ok es c h1).1 (by rw [sizeLine_eq]; have := of_decide_eq_true h2; omega)) rfl
  | .lst es, S, X, Γ, m, e, c, h => by
    have h : ((okP m || decide (m = .o)) && kLst e (fun es' => chkPs G S Γ es es' && decide (es.length ≤ 1000))) = true := h
    obtain ⟨hm, h⟩ := and_t h
    obtain ⟨es', p, rfl, h⟩ := kLst_inv h
    obtain ⟨h1, h2⟩ := and_t h
    exact good_o (okPo_cases hm) (jo_lst (chkPs_ok es c h1).1 (by rw [sizeLine_eq]; have := of_decide_eq_true h2; omega)) rfl
  | .bin o a b, S, X, Γ, m, e, c, h => by
    have h : (okP m && kBin o e (fun x => chk G S Γ .b a x) (fun x => chk G S Γ .b b x)) = true := h
    obtain ⟨hm, h⟩ := and_t h
    obtain ⟨a', b', p, rfl, h1, h2⟩ := kBin_inv h
    exact good_p hm (je_bin (chk_ok a c h1) (chk_ok b c h2)) rfl
  | .cmp o a b, S, X, Γ, m, e, c, h => by
    have h : (okP m && kCmp o e (fun x => chk G S Γ .b a x) (fun x => chk G S Γ .b b x)) = true := h
    obtain ⟨hm, h⟩ := and_t h
    obtain ⟨a', b', p, rfl, h0, h1, h2⟩ := kCmp_inv h
    exact good_t hm (je_cmp c.hu (chk_ok a c h1) (chk_ok b c h2) (noSet_ne h0)) (jt_cmp c.hu (chk_ok a c h1) (chk_ok b c h2) (noSet_ne h0)) rfl
  | .cmp2 o o' a b d, S, X, Γ, m, e, c, h => by
    have h : (okP m && kCmp2 o o' e (fun x => chk G S Γ .b a x) (fun x => chk G S Γ .b b x) (fun x => chk G S Γ .b d x)) = true := h
    obtain ⟨hm, h⟩ := and_t h
    obtain ⟨a', b', d', p, rfl, h0, h1, h2, h3⟩ := kCmp2_inv h
    exact good_t hm (je_cmp2 c.hu (chk_ok a c h1) (chk_ok b c h2) (chk_ok d c h3) (noSet_ne h0)) (jt_cmp2 c.hu (chk_ok a c h1) (chk_ok b c h2) (chk_ok d c h3) (noSet_ne h0)) rfl
  | .isN a, S, X, Γ, m, e, c, h => by
    have h : (okP m && kIs e (fun x => chk G S Γ .b a x)) = true := h
    obtain ⟨hm, h⟩ := and_t h
    obtain ⟨a', j, p, p', rfl, h1⟩ := kIs_inv h
    exact good_t hm (je_isN (chk_ok a c h1)) (jt_isN (chk_ok a c h1)) rfl
  | .notN a, S, X, Γ, m, e, c, h => by
    have h : (okP m && kIsNot e (fun x => chk G S Γ .b a x)) = true := h
    obtain ⟨hm, h⟩ := and_t h
    obtain ⟨a', j, p, p', rfl, h1⟩ := kIsNot_inv h
    exact good_t hm (je_notN (chk_ok a c h1)) (jt_notN (chk_ok a c h1)) rfl
  | .and a b, S, X, Γ, m, e, c, h => by
    have h : (okP m && kAnd e (fun x => chk G S Γ (tMode m (.j .p)) a x) (fun x => chk G S Γ (tMode m (.j .p)) b x)) = true := h
    obtain ⟨hm, h⟩ := and_t h
    obtain ⟨a', b', rest, p, rfl, h1, h2⟩ := kAnd_inv h
    have val : chk G S Γ (.j .p) a a' = true → (rest = [] ∧ chk G S Γ (.j .p) b b' = true) ∨ chk G S Γ (.j .p) b (.BoolOp .And (b' :: rest) p) = true → PE X (.BoolOp .And (a' :: b' :: rest) p) (tJ (callF G.P n) Γ (.and a b) .p) := fun h1 h2 => by
      refine je_and (chk_ok a c h1) ?_
      rcases h2 with ⟨e0, h3⟩ | h3
      · subst e0
        exact pe_one (chk_ok b c h3 : PE _ _ _)
      · exact chk_ok b c h3
    rcases okP_cases hm with rfl | rfl | rfl
    · exact val h1 h2
    · exact jb_of (val h1 h2)
    · have q : PW X (.BoolOp .And (a' :: b' :: rest) p) (tT (callF G.P n) Γ (.and a b)) := by
        have ga : Good (callF G.P n) Γ X .t a a' := chk_ok a c h1
        refine jw_and ga.1 ?_
        rcases h2 with ⟨e0, h3⟩ | h3
        · subst e0
          have gb : Good (callF G.P n) Γ X .t b b' := chk_ok b c h3
          exact jw_one gb.1
        · have gb : Good (callF G.P n) Γ X .t b (.BoolOp .And (b' :: rest) p) := chk_ok b c h3
          exact gb.2 rfl
      exact ⟨q.pt, fun _ => q⟩
  | .or a b, S, X, Γ, m, e, c, h => by
    have h : (okP m && kOr e (fun x => chk G S Γ (tMode m (.j .p)) a x) (fun x => chk G S Γ (tMode m (.j .p)) b x)) = true := h
    obtain ⟨hm, h⟩ := and_t h
    obtain ⟨a', b', rest, p, rfl, h1, h2⟩ := kOr_inv h
    have val : chk G S Γ (.j .p) a a' = true → (rest = [] ∧ chk G S Γ (.j .p) b b' = true) ∨ chk G S Γ (.j .p) b (.BoolOp .Or (b' :: rest) p) = true → PE X (.BoolOp .Or (a' :: b' :: rest) p) (tJ (callF G.P n) Γ (.or a b) .p) := fun h1 h2 => by
      refine je_or (chk_ok a c h1) ?_
      rcases h2 with ⟨e0, h3⟩ | h3
      · subst e0
        exact pe_one (chk_ok b c h3 : PE _ _ _)
      · exact chk_ok b c h3
    rcases okP_cases hm with rfl | rfl | rfl
    · exact val h1 h2
    · exact jb_of (val h1 h2)
    · have q : PW X (.BoolOp .Or (a' :: b' :: rest) p) (tT (callF G.P n) Γ (.or a b)) := by
        have ga : Good (callF G.P n) Γ X .t a a' := chk_ok a c h1
        refine jw_or ga.1 ?_
        rcases h2 with ⟨e0, h3⟩ | h3
        · subst e0
          have gb : Good (callF G.P n) Γ X .t b b' := chk_ok b c h3
          exact jw_one gb.1
        · have gb : Good (callF G.P n) Γ X .t b (.BoolOp .Or (b' :: rest) p) := chk_ok b c h3
          exact gb.2 rfl
      exact ⟨q.pt, fun _ => q⟩
  | .not a, S, X, Γ, m, e, c, h => by
    have h : (okP m && kNot e (fun x => chk G S Γ (tMode m .b) a x)) = true := h
    obtain ⟨hm, h⟩ := and_t h
    obtain ⟨a', p, rfl, h1⟩ := kNot_inv h
    rcases okP_cases hm with rfl | rfl | rfl
    · exact je_not (chk_ok a c h1)
    · exact jb_of (je_not (chk_ok a c h1))
    · have ga : Good (callF G.P n) Γ X .t a a' := chk_ok a c h1
      exact pt_nb (jt_not ga.1) rfl
  | .ite d a b, S, X, Γ, m, e, c, h => by
    have h : (okI m && kIte e (fun x => chk G S Γ .t d x) (fun x => chk G S Γ (iteM m) a x) (fun x => chk G S Γ (iteM m) b x)) = true := h
    obtain ⟨hm, h⟩ := and_t h
    obtain ⟨d', a', b', p, rfl, h1, h2, h3⟩ := kIte_inv h
    have gd : Good (callF G.P n) Γ X .t d d' := chk_ok d c h1
    cases m with
    | j t => exact je_ite gd.1 (chk_ok a c h2) (chk_ok b c h3)
    | b => exact jb_of (je_ite gd.1 (chk_ok a c h2) (chk_ok b c h3))
    | _ => cases hm
  | .ix a b, S, X, Γ, m, e, c, h => by
    have h : (okP m && kIx e (fun x => chk G S Γ .b a x) (fun x => chk G S Γ .b b x)) = true := h
    obtain ⟨hm, h⟩ := and_t h
    obtain ⟨a', b', p, rfl, h0, h1, h2⟩ := kIx_inv h
    exact good_p hm (je_ix (chk_ok a c h1) (chk_ok b c h2) (plain_ix h0)) rfl
  | .slF a b, S, X, Γ, m, e, c, h => by
    have h : (okP m && kSlF e (fun x => chk G S Γ .b a x) (fun x => chk G S Γ .b b x)) = true := h
    obtain ⟨hm, h⟩ := and_t h
    obtain ⟨a', b', p, p', rfl, h1, h2⟩ := kSlF_inv h
    exact good_p hm (je_slF (chk_ok a c h1) (chk_ok b c h2)) rfl
  | .slT a b, S, X, Γ, m, e, c, h => by
    have h : (okP m && kSlT e (fun x => chk G S Γ .b a x) (fun x => chk G S Γ .b b x)) = true := h
    obtain ⟨hm, h⟩ := and_t h
    obtain ⟨a', b', p, p', rfl, h1, h2⟩ := kSlT_inv h
    exact good_p hm (je_slT (chk_ok a c h1) (chk_ok b c h2)) rfl
  | .slB a b d, S, X, Γ, m, e, c, h => by
    have h : (okP m && kSlB e (fun x => chk G S Γ .b a x) (fun x => chk G S Γ .b b x) (fun x => chk G S Γ .b d x)) = true := h
    obtain ⟨hm, h⟩ := and_t h
    obtain ⟨a', b', d', p, p', rfl, h1, h2, h3⟩ := kSlB_inv h
    exact good_p hm (je_slB (chk_ok a c h1) (chk_ok b c h2) (chk_ok d c h3)) rfl
  | .rev a, S, X, Γ, m, e, c, h => by
    have h : (okP m && kRev e (fun x => chk G S Γ .b a x)) = true := h
    obtain ⟨hm, h⟩ := and_t h
    obtain ⟨a', j, p1, p2, p3, p, rfl, h1⟩ := kRev_inv h
    exact good_p hm (je_rev (chk_ok a c h1)) rfl
  | .b1 f a, S, X, Γ, m, e, c, h => by
    have h : (okP m && kCall1 e (b1Word f G S) (fun x => chk G S Γ .b a x)) = true := h
    obtain ⟨hm, h⟩ := and_t h
    obtain ⟨x, p, a', p', rfl, h0, h1, h2⟩ := kCall1_inv h
    unfold b1Word at h1
    split at h1
    · rename_i y id hf
      obtain ⟨rfl, g1, g2⟩ := word_ok c h1
      exact good_p hm (je_b1 c.calm c.hu hf g1 g2 h0 (chk_ok a c h2)) rfl
    · split at h1
      · rename_i y id hf
        obtain ⟨rfl, g1, g2⟩ := word_ok c h1
        exact good_p hm (je_b1T hf g1 g2 h0 (chk_ok a c h2)) rfl
      · cases h1
  | .b2 f a b, S, X, Γ, m, e, c, h => by
    have h : (okP m && kCall2 e (fun x => bWord G S x (b2Fun f).1) (fun x => chk G S Γ .b a x) (fun x => chk G S Γ .b b x)) = true := h
    obtain ⟨hm, h⟩ := and_t h
    obtain ⟨x, p, a', b', p', rfl, h0, h00, h1, h2, h3⟩ := kCall2_inv h
    obtain ⟨rfl, g1, g2⟩ := word_ok c h1
    exact good_p hm (je_b2 c.calm f g1 g2 h0 h00 (chk_ok a c h2) (chk_ok b c h3)) rfl
  | .call f es, S, X, Γ, m, e, c, h => by
    have h : kCall e (fun x => decide (G.fn[f]? = some x) && glB S x) (fun es' => match G.P[f]? with | some fd => resOk m fd.res && chkAs G S Γ es fd.pty es' | none => false) = true := h
    obtain ⟨x, p, es', p', rfl, h1, h2, h3, h4⟩ := kCall_inv h
    obtain ⟨h3, h5⟩ := and_t h3
    cases hf : G.P[f]? with
    | none => rw [hf] at h4; cases h4
    | some fd =>
      rw [hf] at h4
      obtain ⟨h6, h7⟩ := and_t h4
      obtain ⟨q1, q2⟩ := chkAs_ok es c h7
      exact c.call1 h1 h2 (of_decide_eq_true h3) h5 hf h6 q1 q2
  | .mth k a es, S, X, Γ, m, e, c, h => by
    have h : (okP m && decide (k = .index) && kIndex e (fun x => chk G S Γ .b a x) (fun x => chkBs G S Γ es [x])) = true := h
    obtain ⟨hm, h⟩ := and_t h
    obtain ⟨hm1, hk⟩ := and_t hm
    have ek := of_decide_eq_true hk
    obtain ⟨a', ap, b', cp, rfl, h0, h00, h1, h2, h3⟩ := kIndex_inv h
    subst ek
    cases es with
    | nil => cases kNil_inv (show kNil [b'] = true from h3)
    | cons b es =>
      obtain ⟨b1, bs, eb, hu, h4, h5⟩ := kCons_inv (show kCons [b'] (fun x => chk G S Γ .b b x) (fun xs => chkBs G S Γ es xs) = true from h3)
      cases eb
      cases es with
      | nil => exact good_p hm1 (je_index c.hu (chk_ok a c h2) (chk_ok b c h4) h0 h00 h1) rfl
      | cons d es =>
        obtain ⟨_, _, z, _⟩ := kCons_inv (show kCons [] (fun x => chk G S Γ .b d x) (fun xs => chkBs G S Γ es xs) = true from h5)
        cases z
  | .comp own tg k args cond elt, S, X, Γ, m, e, c, h => by
    have h : ((okP m || decide (m = .o)) && (tgSlots tg).all own.contains && kComp e (fun sc => blkB S sc own) (fun sc t => chkTg (S.blk sc) tg t) (fun t it => chkI G S Γ false k args t it)
      (fun sc ifs => kIfs ifs cond fun x => chk G (S.blk sc) (setT tg (unk Γ own)) .t cond x) (fun sc x => chk G (S.blk sc) (setT tg (unk Γ own)) (.j .p) elt x)) = true := h
    obtain ⟨hm, h⟩ := and_t h
    obtain ⟨hm, ho⟩ := and_t hm
    obtain ⟨elt', tg', it', ifs', sc, p, rfl, h1, h2, h3, h4, h5, h6⟩ := kComp_inv h
    exact good_o (okPo_cases hm) (comp_ok c h1 h2 (all_sub ho) h3 ((chkI_ok args c h4).2) (fun c' => ifs_ok h5 fun e q => (chk_ok cond c' q : Good _ _ _ .t _ _).1) (fun c' => chk_ok elt c' h6)) rfl
  | .comp2 own tg k args cond tg2 k2 args2 cond2 elt, S, X, Γ, m, e, c, h => by
    have h : ((okP m || decide (m = .o)) && ((tgSlots tg).all own.contains && (tgSlots tg2).all own.contains) && kComp2 e (fun sc => blkB S sc own) (fun sc t => chkTg (S.blk sc) tg t) (fun t it => chkI G S Γ false k args t it)
      (fun sc ifs => kIfs ifs cond fun x => chk G (S.blk sc) (setT tg (unk Γ own)) .t cond x) (fun sc t => chkTg (S.blk sc) tg2 t) (fun sc t it => chkI G (S.blk sc) (setT tg (unk Γ own)) true k2 args2 t it)
      (fun sc ifs => kIfs ifs cond2 fun x => chk G (S.blk sc) (setT tg2 (unk (setT tg (unk Γ own)) (tgSlots tg2))) .t cond2 x) (fun sc x => chk G (S.blk sc) (setT tg2 (unk (setT tg (unk Γ own)) (tgSlots tg2))) (.j .p) elt x)) = true := h
    obtain ⟨hm, h⟩ := and_t h
    obtain ⟨hm, ho⟩ := and_t hm
    obtain ⟨ho, ho2⟩ := and_t ho
    obtain ⟨elt', tg', it', ifs', tg2', it2', ifs2', sc, p, rfl, h1, h2, h3, h4, h5, h6, h7, h8, h9, h10⟩ := kComp2_inv h
    exact good_o (okPo_cases hm) (comp2_ok c h1 h2 h6 (all_sub ho) (all_sub ho2) h3 h7 ((chkI_ok args c h4).2) (fun c' => (chkI_ok args2 c' h8).1 rfl) (fun c' => ifs_ok h5 fun e q => (chk_ok cond c' q : Good _ _ _ .t _ _).1)
      (fun c' => ifs_ok h9 fun e q => (chk_ok cond2 c' q : Good _ _ _ .t _ _).1) (fun c' => chk_ok elt c' h10)) rfl
  | .dct _, S, X, Γ, m, e, c, h => nomatch h
  | .dnew _, S, X, Γ, m, e, c, h => nomatch h
  | .dix _ _ _, S, X, Γ, m, e, c, h => nomatch h
  | .din _ _ _ _, S, X, Γ, m, e, c, h => nomatch h
  | .dget _ _ _ _, S, X, Γ, m, e, c, h => nomatch h
  | .dlen _ _, S, X, Γ, m, e, c, h => nomatch h
  | .dcomp _ _ _ _ _ _ _, S, X, Γ, m, e, c, h => nomatch h
  | .stx i k, S, X, Γ, m, e, c, h => by
    obtain ⟨hm, h⟩ := and_t (show (okP m && decide (ty Γ i = .st) && kStx e (nameB S i) k) = true from h)
    obtain ⟨hm, ht⟩ := and_t hm
    obtain ⟨a, j, p, p', rfl, h1⟩ := kStx_inv h
    exact good_p hm (je_stx (name_ok c h1) (of_decide_eq_true ht)) rfl
  | .clen i, S, X, Γ, m, e, c, h => by
    obtain ⟨hm, h⟩ := and_t (show (okP m && decide (ty Γ i = .cl) && kCall1 e (fun x => bWord G S x "len") (nameB S i)) = true from h)
    obtain ⟨hm, ht⟩ := and_t hm
    obtain ⟨x, p, a', p', rfl, h0, h1, h2⟩ := kCall1_inv h
    obtain ⟨rfl, g1, g2⟩ := word_ok c h1
    exact good_p hm (je_clen g1 g2 h0 (name_ok c h2) (of_decide_eq_true ht)) rfl
  | .cix i a, S, X, Γ, m, e, c, h => by
    obtain ⟨hm, h⟩ := and_t (show (okP m && decide (ty Γ i = .cl) && kIx e (nameB S i) (fun x => chk G S Γ .b a x)) = true from h)
    obtain ⟨hm, ht⟩ := and_t hm
    obtain ⟨a', b', p, rfl, h0, h1, h2⟩ := kIx_inv h
    exact good_p hm (je_cix h0 (name_ok c h1) (of_decide_eq_true ht) (chk_ok a c h2)) rfl
  | .dcst kvs a, S, X, Γ, m, e, c, h => by
    obtain ⟨hm, h⟩ := and_t (show (okP m && (kvs.all (fun p => plainC p.2) && decide (0 < kvs.length ∧ kvs.length ≤ 15)) && kDcst e kvs (fun x => chk G S Γ .b a x)) = true from h)
    obtain ⟨hm, hp⟩ := and_t hm
    obtain ⟨hp, hk⟩ := and_t hp
    obtain ⟨ks, vs, p, b, p', rfl, h0, h1, h2⟩ := kDcst_inv h
    obtain ⟨a1, a2, a3, a4⟩ := keys_ok (X := X) (p := p) h1
    have hk := of_decide_eq_true hk
    exact good_p hm (je_dcst c.hu a1 a2 a3 (fun z => by rw [z] at a4; simp at a4; omega) (by omega) hk.2 h0 hp (chk_ok a c h2)) rfl
theorem chkPs_ok : ∀ (ies : List IE) {S : SC} {X : Cx} {Γ : List Ty} {es : List Expr}, CO G n X S → chkPs G S Γ ies es = true → PA X es (tPs (callF G.P n) Γ ies) ∧ es.all unstar = true
  | [], S, X, Γ, es, c, h => by
    cases kNil_inv (show kNil es = true from h)
    exact ⟨jps_nil, rfl⟩
  | a :: as, S, X, Γ, es, c, h => by
    obtain ⟨e, es, rfl, h1, h2, h3⟩ := kCons_inv (show kCons es (fun x => chk G S Γ (.j .p) a x) (fun xs => chkPs G S Γ as xs) = true from h)
    obtain ⟨q1, q2⟩ := chkPs_ok as c h3
    exact ⟨jps_cons (chk_ok a c h2) q1 (star_cons h1 _ _), by rw [List.all_cons, h1, q2]; rfl⟩
theorem chkBs_ok : ∀ (ies : List IE) {S : SC} {X : Cx} {Γ : List Ty} {es : List Expr}, CO G n X S → chkBs G S Γ ies es = true → PA X es (tBs (callF G.P n) Γ ies) ∧ es.all unstar = true
  | [], S, X, Γ, es, c, h => by
    cases kNil_inv (show kNil es = true from h)
    exact ⟨jbs_nil, rfl⟩
  | a :: as, S, X, Γ, es, c, h => by
    obtain ⟨e, es, rfl, h1, h2, h3⟩ := kCons_inv (show kCons es (fun x => chk G S Γ .b a x) (fun xs => chkBs G S Γ as xs) = true from h)
    obtain ⟨q1, q2⟩ := chkBs_ok as c h3
    exact ⟨jbs_cons (chk_ok a c h2) q1 (star_cons h1 _ _), by rw [List.all_cons, h1, q2]; rfl⟩
theorem chkAs_ok : ∀ (ies : List IE) {S : SC} {X : Cx} {Γ : List Ty} {ts : List Ty} {es : List Expr}, CO G n X S → chkAs G S Γ ies ts es = true → PA X es (tJs (callF G.P n) Γ ies ts) ∧ es.length = ies.length ∧ ies.length = ts.length
  | [], S, X, Γ, ts, es, c, h => by
    obtain ⟨h1, h2⟩ := and_t (show (ts.isEmpty && kNil es) = true from h)
    cases kNil_inv h2
    cases List.isEmpty_iff.mp h1
    exact ⟨js_nil, rfl, rfl⟩
  | a :: as, S, X, Γ, ts, es, c, h => by
    cases ts with
    | nil => exact nomatch (show false = true from h)
    | cons t ts =>
      obtain ⟨e, es, rfl, h1, h2, h3⟩ := kCons_inv (show kCons es (fun x => chk G S Γ (.j t) a x) (fun xs => chkAs G S Γ as ts xs) = true from h)
      obtain ⟨q1, q2, q3⟩ := chkAs_ok as c h3
      exact ⟨js_cons (chk_ok a c h2) q1 (star_cons h1 _ _), by rw [List.length_cons, List.length_cons, q2], by rw [List.length_cons, List.length_cons, q3]⟩
theorem chkI_ok : ∀ (ies : List IE) {S : SC} {X : Cx} {Γ : List Ty} {pure : Bool} {k : IK} {tg e : Expr}, CO G n X S → chkI G S Γ pure k ies tg e = true → (pure = true → PI X tg e (tI (callF G.P n) Γ k ies)) ∧ PI X tg e (tIB (callF G.P n) Γ k ies)
  | [], S, X, Γ, pure, k, tg, e, c, h => nomatch h
  | a :: as, S, X, Γ, pure, k, tg, e, c, h => by
    have both : PI X tg e (tI (callF G.P n) Γ k (a :: as)) → (pure = true → PI X tg e (tI (callF G.P n) Γ k (a :: as))) ∧ PI X tg e (tIB (callF G.P n) Γ k (a :: as)) := fun q => ⟨fun _ => q, pi_weak q⟩
    cases k with
    | seq =>
      obtain ⟨h1, h2⟩ := and_t (show (as.isEmpty && chk G S Γ (pM pure) a e) = true from h)
      cases List.isEmpty_iff.mp h1
      cases pure with
      | true => exact both (js_seq (chk_ok a c h2))
      | false => exact ⟨fun z => (Bool.false_ne_true z).elim, jb_seq (chk_ok a c h2)⟩
    | r1 =>
      obtain ⟨h1, h2⟩ := and_t (show (as.isEmpty && kCall1 e (fun x => bWord G S x "range") (fun x => chk G S Γ .b a x)) = true from h)
      cases List.isEmpty_iff.mp h1
      obtain ⟨x, p, a', p', rfl, h3, h4, h5⟩ := kCall1_inv h2
      obtain ⟨rfl, g1, g2⟩ := word_ok c h4
      exact both (js_r1 g1 g2 h3 (chk_ok a c h5))
    | r2 =>
      obtain ⟨x, p, a', b', p', rfl, h0, h00, h4, h5, h6⟩ := kCall2_inv (show kCall2 e (fun x => bWord G S x "range") (fun x => chk G S Γ .b a x) (fun x => chkBs G S Γ as [x]) = true from h)
      obtain ⟨rfl, g1, g2⟩ := word_ok c h4
      cases as with
      | nil => cases kNil_inv (show kNil [b'] = true from h6)
      | cons b as =>
        obtain ⟨b1, bs, eb, hu, h7, h8⟩ := kCons_inv (show kCons [b'] (fun x => chk G S Γ .b b x) (fun xs => chkBs G S Γ as xs) = true from h6)
        cases eb
        cases as with
        | nil => exact both (js_r2 g1 g2 h0 h00 (chk_ok a c h5) (chk_ok b c h7))
        | cons d as =>
          obtain ⟨_, _, z, _⟩ := kCons_inv (show kCons [] (fun x => chk G S Γ .b d x) (fun xs => chkBs G S Γ as xs) = true from h8)
          cases z
    | enum =>
      obtain ⟨h1, h2⟩ := and_t (show (isTup tg && as.isEmpty && kCall1 e (fun x => bWord G S x "enumerate") (fun x => chk G S Γ (pM pure) a x)) = true from h)
      obtain ⟨h11, h12⟩ := and_t h1
      have e0 := List.isEmpty_iff.mp h12
      subst e0
      obtain ⟨es, kk, tp, rfl⟩ := tup_of h11
      obtain ⟨x, p, a', p', rfl, h3, h4, h5⟩ := kCall1_inv h2
      obtain ⟨rfl, g1, g2⟩ := word_ok c h4
      cases pure with
      | true => exact both (js_enum g1 g2 h3 (chk_ok a c h5))
      | false => exact ⟨fun z => (Bool.false_ne_true z).elim, jb_enum g1 g2 h3 (chk_ok a c h5)⟩
    | zip =>
      obtain ⟨h1, h2⟩ := and_t (show (isTup tg && kCall2 e (fun x => bWord G S x "zip") (fun x => chk G S Γ (.j .p) a x) (fun x => chkPs G S Γ as [x])) = true from h)
      obtain ⟨es, kk, tp, rfl⟩ := tup_of h1
      obtain ⟨x, p, a', b', p', rfl, h0, h00, h4, h5, h6⟩ := kCall2_inv h2
      obtain ⟨rfl, g1, g2⟩ := word_ok c h4
      cases as with
      | nil => cases kNil_inv (show kNil [b'] = true from h6)
      | cons b as =>
        obtain ⟨b1, bs, eb, hu, h7, h8⟩ := kCons_inv (show kCons [b'] (fun x => chk G S Γ (.j .p) b x) (fun xs => chkPs G S Γ as xs) = true from h6)
        cases eb
        cases as with
        | nil => exact both (js_zip g1 g2 h0 h00 (chk_ok a c h5) (chk_ok b c h7))
        | cons d as =>
          obtain ⟨_, _, z, _⟩ := kCons_inv (show kCons [] (fun x => chk G S Γ (.j .p) d x) (fun xs => chkPs G S Γ as xs) = true from h8)
          cases z
    | items => exact nomatch (show false = true from h)
end
end
end Ev
set_option Elab.async false
set_option linter.all false
set_option maxRecDepth 100000
set_option autoImplicit false
/-! Ev16: the look at statements. -/
namespace Ev
open PySem PySem.Spec PyProof.Rows L2
abbrev Fl := Option (Option (List Ty))
def gd (b : Bool) (r : Option (List Ty)) : Fl := if b then some r else none
def Fits (r : Option (List Ty)) (Γ1 : List Ty) : Prop := match r with
  | none => True
  | some Γ' => weak Γ' Γ1 = true
def meet (Γ Γ' : List Ty) : List Ty := (Γ.zip Γ').map fun p => if p.1 = p.2 then p.1 else .u
def join : Fl → Fl → Fl
  | some none, r => r
  | some (some Γ), some none => some (some Γ)
  | some (some Γ), some (some Γ') => if weak Γ (meet Γ Γ') && weak Γ' (meet Γ Γ') then some (some (meet Γ Γ')) else none
  | _, _ => none
def isCompr : Expr → Bool
  | .ListComp .. => true | .SetComp .. => true | .DictComp .. => true
  | _ => false
/-- the new list goes straight to its name -/
def swapB (S : SC) (t e : Expr) : Bool := match t, e with
  | .Name x p, .ListComp elt gens sc pos => decide (S.nm.lookup x = some .local) && decide (p.line = pos.line) && !(sc.names.any fun (n, k) => n == x && (k == .local || k == .cell))
  | _, _ => false
def noSwapB (S : SC) (t e : Expr) : Bool := !isCompr e || match t, e with
  | .Name x p, .ListComp elt gens sc pos => !swapB S t e
  | .Name _ _, _ => false
  | _, _ => true
def isTupL : Expr → Bool
  | .Tuple .. => true | .List .. => true
  | _ => false
def locNm (S : SC) (line : Nat) (t : Expr) : Option Str := match t with
  | .Name id pos => if S.nm.lookup id == some .local && pos.line == line then some id else none
  | _ => none
def locNms (S : SC) (ts : List Expr) : List Str := ts.filterMap (locNm S ((ts.head?.map (·.pos.line)).getD 0))
/-- no stores from the right -/
def noStB (S : SC) (t e : Expr) : Bool := match t, e with
  | .Tuple ts _ _, .Tuple vs _ _ => (!(ts.length == 2 || ts.length == 3) || vs.length != ts.length) || ((locNms S ts).length != ts.length)
  | .Tuple .., .List .. => true
  | .Tuple .., x => !isTupL x
  | .List .., _ => false
  | _, _ => true
def asgB (S : SC) (t e : Expr) : Bool := unstar t && (noSwapB S t e || swapB S t e) && noStB S t e
def kAsg (s : Stmt) (f : Expr → Expr → Bool) : Bool := match s with | .Assign [t] e _ => f t e | _ => false
def kMeth (s : Stmt) (m : Str) (f g : Expr → Bool) : Bool := match s with | .Expr (.Call (.Attribute a y ap) [b] [] cp) _ => y == m && plainBase a && unstar b && (ap.endLine == cp.line) && f a && g b | _ => false
def kEx (s : Stmt) (f : Expr → Bool) : Bool := match s with | .Expr e _ => !isCompr e && f e | _ => false
def kRet (s : Stmt) (f : Expr → Bool) : Bool := match s with | .Return (some e) _ => f e | _ => false
def kRetN (s : Stmt) : Bool := match s with | .Return none _ => true | _ => false
def kBrk (s : Stmt) : Bool := match s with | .Break _ => true | _ => false
def kCont (s : Stmt) : Bool := match s with | .Continue _ => true | _ => false
def kSet (s : Stmt) (f g k : Expr → Bool) : Bool := match s with | .Assign [.Subscript a b _] e _ => noSlice b && !isCompr e && f a && g b && k e | _ => false
def kIf (s : Stmt) (f : Expr → Bool) (g k : List Stmt → Fl) : Fl := match s with | .If c a b _ => if f c then join (g a) (k b) else none | _ => none
def fitsB (r : Fl) (Γ : List Ty) : Bool := match r with
  | some none => true
  | some (some Γ') => weak Γ' Γ
  | none => false
def kFor (s : Stmt) (f : Expr → Expr → Bool) (g : List Stmt → Bool) : Bool := match s with | .For t e b [] _ => noSet e && f t e && g b | _ => false
def kWhl (s : Stmt) (f : Expr → Bool) (g : List Stmt → Bool) : Bool := match s with | .While c b [] _ => f c && g b | _ => false
def kPar (S : SC) (i j : Nat) (s : Stmt) (f : List Expr → Bool) : Bool := match s with
  | .Assign [.Tuple [.Name x px, .Name y py] _ _] (.Tuple [a, b] _ _) _ => decide (S.N[i]? = some x) && decide (S.N[j]? = some y) && decide (i ≠ j) && decide (S.nm.lookup x = some .local) && decide (S.nm.lookup y = some .local) && decide (px.line = py.line) && !([a, b].all (foldedForSure 8)) && !([a, b].all (constantsAlone 8)) && unstar a && unstar b && f [a, b]
  | _ => false
def kSSet (s : Stmt) (f : Expr → Bool) (n : Nat) (g : Expr → Bool) : Bool := match s with | .Assign [.Subscript a (.Constant (.int k) _ _) _] e _ => decide (k = (n : Int)) && !isCompr e && f a && g e | _ => false
def tmB (S : SC) (i : Nat) : List Expr → List (Option Int) → Bool
  | es, [] => es.isEmpty
  | .Constant (.int k) _ _ :: es, some k' :: tm => decide (k = k') && tmB S i es tm
  | e :: es, none :: tm => unstar e && nameB S i e && tmB S i es tm
  | _, _ => false
def kRetL (s : Stmt) (f : List Expr → Bool) : Bool := match s with | .Return (some (.List es _)) _ => f es | _ => false
def killB (ks : List Nat) (G : List Ty) : Bool := ks.all fun i => decide (ty G i = .u)
def isDnew (t : Bool) : IE → Bool
  | .dnew t' => decide (t = t')
  | _ => false
def isDict0 : Expr → Bool
  | .Dict [] [] _ => true
  | _ => false
mutual
def chkS (G : PG0) (S : SC) (res : Ty) (ΓL : List Ty) (Γ : List Ty) : IS → Stmt → Fl
  | .set tg e, s => gd (kAsg s fun t' e' => chkTg S tg t' && chk G S Γ (.j .p) e e' && asgB S t' e') (some (setT tg Γ))
  | .own i t e, s => (match t with
    | .o => gd (decide (i < Γ.length) && kAsg s fun t' e' => chkTg S (.n i) t' && chk G S Γ .o e e' && asgB S t' e') (some (Γ.set i .o))
    | .p => gd (kAsg s fun t' e' => chkTg S (.n i) t' && chk G S Γ (.j .p) e e' && (asgB S t' e' && !isCompr e')) (some (Γ.set i .p))
    | .pK => gd (kAsg s fun t' e' => chkTg S (.n i) t' && chk G S Γ (.j .pK) e e' && (asgB S t' e' && !isCompr e')) (some (Γ.set i .pK))
    | .pT => gd (kAsg s fun t' e' => chkTg S (.n i) t' && chk G S Γ (.j .pT) e e' && (asgB S t' e' && !isCompr e')) (some (Γ.set i .pT))
    | .st => gd (decide (i < Γ.length) && kAsg s fun t' e' => chkTg S (.n i) t' && chk G S Γ (.j .st) e e' && (asgB S t' e' && !isCompr e')) (some (Γ.set i .st))
    | .dK => gd (decide (i < Γ.length) && isDnew false e && kAsg s fun t' e' => chkTg S (.n i) t' && isDict0 e' && asgB S t' e') (some (Γ.set i .dK))
    | .dT => gd (decide (i < Γ.length) && isDnew true e && kAsg s fun t' e' => chkTg S (.n i) t' && isDict0 e' && asgB S t' e') (some (Γ.set i .dT))
    | _ => none)
  | .par i j a b, s => gd (kPar S i j s fun es => chkPs G S Γ [a, b] es) (some ((Γ.set i .p).set j .p))
  | .setix i k e, s => gd (decide (ty Γ i = .o) && kSet s (nameB S i) (fun x => chk G S Γ .b k x) (fun x => chk G S Γ (.j .p) e x)) (some Γ)
  | .app i e, s => gd (decide (ty Γ i = .o) && kMeth s "append" (nameB S i) (fun x => chk G S Γ (.j .p) e x)) (some Γ)
  | .ext i e, s => gd (decide (ty Γ i = .o) && kMeth s "extend" (nameB S i) (fun x => chk G S Γ (.j .p) e x)) (some Γ)
  | .ex e, s => gd (kEx s fun x => chk G S Γ (.j .p) e x) (some Γ)
  | .ret e, s => gd (kRet s fun x => chk G S Γ (.j res) e x) none
  | .retN, s => gd (kRetN s && decide (res = .p)) none
  | .ite c a b, s => kIf s (fun x => chk G S Γ .t c x) (fun l => chkSs G S res ΓL Γ a l) (fun l => chkSs G S res ΓL Γ b l)
  | .for tg k args body ks Gl, s => gd (weak Γ Gl && killB ks Gl && kFor s (fun t' e' => chkTg S tg t' && chkI G S Γ true k args t' e') (fun l => fitsB (chkSs G S res Gl (setT tg Gl) body l) Gl)) (some Gl)
  | .whl c body ks Gl, s => gd (weak Γ Gl && killB ks Gl && kWhl s (fun x => chk G S Gl .t c x) (fun l => fitsB (chkSs G S res Gl Gl body l) Gl)) (some Gl)
  | .brk, s => gd (kBrk s && weak Γ ΓL) none
  | .cont, s => gd (kCont s && weak Γ ΓL) none
  | .setix2 _ _ _ _, _ => none
  | .setd _ _ _ _, _ => none
  | .pop _ _, _ => none
  | .frz _, _ => none
  | .cget j i n, s => gd (decide (j < Γ.length) && decide (ty Γ i = .st) && kAsg s fun t' e' => chkTg S (.n j) t' && kStx e' (nameB S i) n) (some (Γ.set j .cl))
  | .cset i k e, s => gd (decide (ty Γ i = .cl) && kSet s (nameB S i) (fun x => chk G S Γ .b k x) (fun x => chk G S Γ (.j .p) e x)) (some Γ)
  | .sset i n e, s => gd (decide (ty Γ i = .st) && kSSet s (nameB S i) n (fun x => chk G S Γ (.j .p) e x)) (some Γ)
  | .retSt i tm, s => gd (decide (res = .st) && decide (ty Γ i = .o) && decide (tm.length ≤ 1000) && kRetL s (fun es => tmB S i es tm)) none
def chkSs (G : PG0) (S : SC) (res : Ty) (ΓL : List Ty) (Γ : List Ty) : List IS → List Stmt → Fl
  | [], ss => (match ss with | [] => some (some Γ) | _ => none)
  | i :: is, ss => (match isFrz i with
    | some k => (match frzT (ty Γ k) with | some t => chkSs G S res ΓL (Γ.set k t) is ss | none => none)
    | none => (match ss with
      | [] => none
      | s :: ss => (match chkS G S res ΓL Γ i s with
        | none => none
        | some none => if is.isEmpty && ss.isEmpty then some none else none
        | some (some Γ1) => chkSs G S res ΓL Γ1 is ss)))
where isFrz : IS → Option Nat
  | .frz k => some k
  | _ => none
end
end Ev
set_option Elab.async false
set_option linter.all false
set_option maxRecDepth 100000
set_option autoImplicit false
/-! Ev17: the look at statements is sound. -/
namespace Ev
open PySem PySem.Spec PyProof.Rows L2
section
variable {G : PG0} {n : Nat} {X : Cx} {S : SC}
theorem CO.blockKind (c : CO G n X S) : X.env.blockKind = .function := by
  unfold Env.blockKind
  rw [c.kd]
  rfl
theorem CO.kindOf (c : CO G n X S) (x : Str) : X.env.kindOf x = S.nm.lookup x := by
  unfold Env.kindOf
  rw [c.nm]
theorem swap_bool (c : CO G n X S) {x : Str} {p pos : Pos} {elt : Expr} {gens : List Comprehension} {sc : Scope} (line : Nat) :
    swapsWith (.ListComp elt gens sc pos) (some (.Name x p)) line X.env = pure (swapB S (.Name x p) (.ListComp elt gens sc pos)) := by
  show (pure (X.env.blockKind == .function && X.env.kindOf x == some .local && p.line == pos.line && !(sc.names.any fun (n, k) => n == x && (k == .local || k == .cell))) : Sem Bool) = _
  rw [c.blockKind, c.kindOf]
  congr 1
  unfold swapB
  have e : ∀ (l : Option NameKind), (l == some NameKind.local) = decide (l = some NameKind.local) := fun l => by
    cases l with
    | none => rfl
    | some k => cases k <;> rfl
  have e2 : (p.line == pos.line) = decide (p.line = pos.line) := rfl
  rw [e, e2]
  rfl
theorem sole_false (c : CO G n X S) {t e : Expr} (h : noSwapB S t e = true) (line : Nat) : swapsWithSole [t] e line X.env = pure false := by
  show swapsWith e (some t) line X.env = pure false
  unfold noSwapB at h
  cases e with
  | ListComp elt gens sc pos =>
    cases t with
    | Name x p =>
      rw [swap_bool c]
      have h : swapB S (.Name x p) (.ListComp elt gens sc pos) = false := by simpa [isCompr] using h
      rw [h]
    | _ => rfl
  | SetComp elt gens sc pos => cases t <;> first | rfl | cases h
  | DictComp a b gens sc pos => cases t <;> first | rfl | cases h
  | _ => rfl
theorem locNms_eq (c : CO G n X S) (ts : List Expr) : (ts.filterMap fun
    | .Name id pos => if X.env.kindOf id == some .local && pos.line == (ts.head?.map (·.pos.line)).getD 0 then some id else none
    | _ => none) = locNms S ts := by
  unfold locNms
  congr 1
  funext t
  unfold locNm
  cases t <;> first | rfl | (simp only [c.kindOf])
theorem key_none {l m : List Str} {k : Nat} {rest : Sem (Option (List Str))} (e : l = m) (h : (m.length != k) = true) : (if (l.length != k || l.eraseDups.length != l.length) = true then (pure none : Sem (Option (List Str))) else rest) = pure none := by
  rw [e, h]
  rfl
theorem key_some {l m : List Str} {k : Nat} {r1 r2 r3 : Sem (Option (List Str))} {f g : Bool} (e : l = m) (h : m.length = k) (h2 : m.eraseDups.length = m.length) (hf : f = false) (hg : g = false) (h3 : r3 = pure (some l)) : (if (l.length != k || l.eraseDups.length != l.length) = true then (pure none : Sem (Option (List Str))) else if f = true then r1 else if g = true then r2 else r3) = pure (some m) := by
  rw [h3, e, h, h2, hf, hg, h]
  rw [if_neg (by simp), if_neg Bool.false_ne_true, if_neg Bool.false_ne_true]
theorem stores_none (c : CO G n X S) {t e : Expr} (h : noStB S t e = true) : swappedStores [t] e X.env = pure none := by
  unfold noStB at h
  cases t with
  | Tuple ts k p =>
    cases e with
    | Tuple vs k2 p2 =>
      have h : ((!(ts.length == 2 || ts.length == 3) || vs.length != ts.length) || ((locNms S ts).length != ts.length)) = true := h
      rw [Bool.or_eq_true] at h
      unfold swappedStores
      simp only [pure_bind, bind_pure_comp, map_pure]
      rw [c.blockKind]
      by_cases h1 : (!(ts.length == 2 || ts.length == 3) || vs.length != ts.length) = true
      · have q : (!(ts.length == 2 || ts.length == 3) || vs.length != ts.length || (ScopeKind.function : ScopeKind) != .function) = true := by rw [h1]; rfl
        rw [if_pos q]
      · have h2 := h.resolve_left h1
        have q : ¬ ((!(ts.length == 2 || ts.length == 3) || vs.length != ts.length || (ScopeKind.function : ScopeKind) != .function) = true) := by
          rw [Bool.not_eq_true] at h1
          rw [h1]
          decide
        rw [if_neg q]
        split
        · rfl
        · refine key_none ?_ h2
          exact locNms_eq c ts
    | List es p2 => rfl
    | _ => first | rfl | cases h
  | List ts p => cases h
  | _ => rfl
/-! ### x = e -/
theorem asg_plain (c : CO G n X S) {t e : Expr} {te : TE} {g : TG} {pos : Pos} (hu : unstar t = true) (h1 : noSwapB S t e = true) (h2 : noStB S t e = true) (he : PE X e te) (hg : PG X t g) : PS X (.Assign [t] e pos) (tAsg te g) :=
  ps_asg he hg (sole_false c h1 _) (stores_none c h2) (each_one hu _)
theorem chk_form {Γ : List Ty} {m : Mode} {ie : IE} {elt : Expr} {gens : List Comprehension} {sc : Scope} {pos : Pos} (h : chk G S Γ m ie (.ListComp elt gens sc pos) = true) :
    (∃ own tg k args cond el, ie = .comp own tg k args cond el) ∨ (∃ own tg k args cond tg2 k2 args2 cond2 el, ie = .comp2 own tg k args cond tg2 k2 args2 cond2 el) := by
  cases ie <;> first
    | exact .inl ⟨_, _, _, _, _, _, rfl⟩
    | exact .inr ⟨_, _, _, _, _, _, _, _, _, _, rfl⟩
    | (exfalso; exact nomatch (show false = true from h))
    | (exfalso; have h : (_ && false) = true := h; rw [Bool.and_false] at h; cases h)
theorem asgO (c : CO G n X S) {Γ : List Ty} {i : Nat} {m : Mode} {ie : IE} {t e : Expr} {pos : Pos} (hm : m = .o ∨ m = .j .p) (ht : chkTg S (.n i) t = true) (h : chk G S Γ m ie e = true) (hs : swapB S t e = true) : PS X (.Assign [t] e pos) (tAsg (tO (callF G.P n) Γ ie) (gName i)) := by
  cases t with
  | Name y py =>
    cases e with
    | ListComp elt gens sc p =>
      obtain ⟨hN, hloc⟩ := and_t (show (decide (S.N[i]? = some y) && locB S y) = true from ht)
      have hyl : X.env.scope.names.lookup y = some .local := by
        rw [c.nm]
        have hs : (decide (S.nm.lookup y = some .local) && decide (py.line = p.line) && !(sc.names.any fun (n, k) => n == y && (k == .local || k == .cell))) = true := hs
        exact of_decide_eq_true (and_t (and_t hs).1).1
      have hi' : X.N[i]? = some y := by rw [c.N]; exact of_decide_eq_true hN
      have hsw : swapsWith (.ListComp elt gens sc p) (some (.Name y py)) pos.line X.env = pure true := by rw [swap_bool c, hs]
      have hmo : okP m = true ∨ m = .o := by
        rcases hm with rfl | rfl
        · exact .inr rfl
        · exact .inl rfl
      rcases chk_form h with ⟨own, tg, k, args, cond, el, rfl⟩ | ⟨own, tg, k, args, cond, tg2, k2, args2, cond2, el, rfl⟩
      · have h : ((okP m || decide (m = .o)) && (tgSlots tg).all own.contains && kComp (.ListComp elt gens sc p) (fun sc => blkB S sc own) (fun sc t => chkTg (S.blk sc) tg t) (fun t it => chkI G S Γ false k args t it)
          (fun sc ifs => kIfs ifs cond fun x => chk G (S.blk sc) (setT tg (unk Γ own)) .t cond x) (fun sc x => chk G (S.blk sc) (setT tg (unk Γ own)) (.j .p) el x)) = true := h
        obtain ⟨hm1, h⟩ := and_t h
        obtain ⟨hm1, ho⟩ := and_t hm1
        obtain ⟨elt', tg', it', ifs', sc', p', e0, h1, h2, h3, h4, h5, h6⟩ := kComp_inv h
        cases e0
        have q := ps_setLc (py := py) (spos := pos) (pos := p) c.calm (by rw [c.N]; exact c.nd) hi' hyl hsw ((chkI_ok args c h4).2) (blk_ok c h1) (fun s H C cl fp => tg_ok (blk_co c h1 s H C cl fp) tg tg' h3)
          (fun s H C cl fp => ifs_ok h5 fun e q => (chk_ok cond (blk_co c h1 s H C cl fp) q : Good _ _ _ .t _ _).1) (fun s H C cl fp => (chk_ok el (blk_co c h1 s H C cl fp) h6 : PE _ _ _)) (fun x => folded_ok h2 _ x)
        rw [ownOf_snd] at q
        exact PSw q fun D σ H h => lc_runO (all_sub ho) h
      · have h : ((okP m || decide (m = .o)) && ((tgSlots tg).all own.contains && (tgSlots tg2).all own.contains) && kComp2 (.ListComp elt gens sc p) (fun sc => blkB S sc own) (fun sc t => chkTg (S.blk sc) tg t) (fun t it => chkI G S Γ false k args t it)
          (fun sc ifs => kIfs ifs cond fun x => chk G (S.blk sc) (setT tg (unk Γ own)) .t cond x) (fun sc t => chkTg (S.blk sc) tg2 t) (fun sc t it => chkI G (S.blk sc) (setT tg (unk Γ own)) true k2 args2 t it)
          (fun sc ifs => kIfs ifs cond2 fun x => chk G (S.blk sc) (setT tg2 (unk (setT tg (unk Γ own)) (tgSlots tg2))) .t cond2 x) (fun sc x => chk G (S.blk sc) (setT tg2 (unk (setT tg (unk Γ own)) (tgSlots tg2))) (.j .p) el x)) = true := h
        obtain ⟨hm1, h⟩ := and_t h
        obtain ⟨hm1, ho⟩ := and_t hm1
        obtain ⟨ho, ho2⟩ := and_t ho
        obtain ⟨elt', tg', it', ifs', tg2', it2', ifs2', sc', p', e0, h1, h2, h3, h4, h5, h6, h7, h8, h9, h10⟩ := kComp2_inv h
        cases e0
        have q := ps_setLc2 (py := py) (spos := pos) (pos := p) (vs1 := tgSlots tg2) c.calm (by rw [c.N]; exact c.nd) hi' hyl hsw ((chkI_ok args c h4).2) (blk_ok c h1) (by rw [ownOf_snd]; exact all_sub ho2) (fun s H C cl fp => tg_ok (blk_co c h1 s H C cl fp) tg tg' h3)
          (fun s H C cl fp => ifs_ok h5 fun e q => (chk_ok cond (blk_co c h1 s H C cl fp) q : Good _ _ _ .t _ _).1) (fun s H C cl fp => (chkI_ok args2 (blk_co c h1 s H C cl fp) h8).1 rfl) (fun s H C cl fp => tg_ok (blk_co c h1 s H C cl fp) tg2 tg2' h7)
          (fun s H C cl fp => ifs_ok h9 fun e q => (chk_ok cond2 (blk_co c h1 s H C cl fp) q : Good _ _ _ .t _ _).1) (fun s H C cl fp => (chk_ok el (blk_co c h1 s H C cl fp) h10 : PE _ _ _)) (fun x => folded_ok h2 _ x) (fun env x => folded_ok h6 env x)
        rw [ownOf_snd] at q
        exact PSw q fun D σ H h => lc2_runO (all_sub ho) (fun i m => m) h
    | _ => cases hs
  | _ => cases hs
theorem tgn_name (c : CO G n X S) {i : Nat} {t : Expr} (h : chkTg S (.n i) t = true) : PG X t (gName i) := by
  cases t with
  | Name x p =>
    obtain ⟨h1, h2⟩ := and_t (show (decide (S.N[i]? = some x) && locB S x) = true from h)
    obtain ⟨q1, q2⟩ := c.loc h2
    exact pg_name (by rw [c.N]; exact c.nd) (by rw [c.N]; exact of_decide_eq_true h1) q1 q2
  | _ => exact nomatch (show false = true from h)
/-- the store of a target of one name -/
theorem gn_w {i : Nat} {v : V} {σ : L2.St} {H : Hp} {Q : L2.St → Hp → Prop} (h : gT (.n i) v σ H Q) : gName i v σ H Q := by
  obtain ⟨W, fp, Γ, γ, d, γ', sl, sm, r, e, q⟩ := h
  simp only [bindT, Option.some.injEq] at e
  subst e
  exact q _ _ (sl.setP i (t := .p) (.inl rfl) r) (fun j a m => (off_mem m).1) ⟨by rw [List.length_set], fun j hj => by rw [List.getElem?_set_ne (fun z => hj (by rw [z]; exact List.mem_singleton.mpr rfl))]⟩
theorem tg_of_name {tg : Tg} {x : Str} {p : Pos} (h : chkTg S tg (.Name x p) = true) : ∃ i, tg = .n i := by
  cases tg with
  | n i => exact ⟨i, rfl⟩
  | t ts => cases h
  | l ts => cases h
theorem asg_tO {ie : IE} {Γ : List Ty} {g : TG} {D : Ends} {σ : L2.St} {H : Hp} {cf : CF} (h : tAsg (tJ cf Γ ie .p) g D σ H) : tAsg (tO cf Γ ie) g D σ H := tO_of h
variable {res : Ty} {ΓL Γ : List Ty}
theorem set_ok (c : CO G n X S) {tg : Tg} {ie : IE} {t e : Expr} {pos : Pos} (ht : chkTg S tg t = true) (h : chk G S Γ (.j .p) ie e = true) (ha : asgB S t e = true) : PS X (.Assign [t] e pos) (tS (callF G.P n) res ΓL Γ (.set tg ie) (setT tg Γ)) := by
  unfold asgB at ha
  obtain ⟨ha, h3⟩ := and_t ha
  obtain ⟨h1, h2⟩ := and_t ha
  rw [Bool.or_eq_true] at h2
  rcases h2 with h2 | h2
  · exact PSw (asg_plain c h1 h2 h3 (chk_ok ie c h : PE _ _ _) (tg_ok c tg t ht)) fun D σ H h => w_set h
  · have hn : ∃ x p, t = .Name x p := by
      cases t <;> first | exact ⟨_, _, rfl⟩ | cases h2
    obtain ⟨x, p, rfl⟩ := hn
    obtain ⟨i, rfl⟩ := tg_of_name ht
    refine PSw (asgO c (.inr rfl) ht h h2) fun D σ H q => ?_
    have q := w_set q
    obtain ⟨W, fp, γ, τ, d, τ', w, sl, ev, q⟩ := q
    exact tO_of ⟨W, fp, γ, τ, d, τ', w, sl, ev, fun v W' H' f w' r => gn_w (q v W' H' f w' r)⟩
theorem own_ok (c : CO G n X S) {i : Nat} {ie : IE} {t e : Expr} {pos : Pos} (hi : i < Γ.length) (ht : chkTg S (.n i) t = true) (h : chk G S Γ .o ie e = true) (ha : asgB S t e = true) : PS X (.Assign [t] e pos) (tS (callF G.P n) res ΓL Γ (.own i .o ie) (Γ.set i .o)) := by
  unfold asgB at ha
  obtain ⟨ha, h3⟩ := and_t ha
  obtain ⟨h1, h2⟩ := and_t ha
  rw [Bool.or_eq_true] at h2
  rcases h2 with h2 | h2
  · exact PSw (asg_plain c h1 h2 h3 (chk_ok ie c h : PE _ _ _) (tgn_name c ht)) fun D σ H h => w_own hi h
  · exact PSw (asgO c (.inl rfl) ht h h2) fun D σ H q => w_own hi q
theorem asgN (c : CO G n X S) {t e : Expr} (h : (asgB S t e && !isCompr e) = true) : unstar t = true ∧ noSwapB S t e = true ∧ noStB S t e = true := by
  obtain ⟨h, h4⟩ := and_t h
  unfold asgB at h
  obtain ⟨h, h3⟩ := and_t h
  obtain ⟨h1, h2⟩ := and_t h
  exact ⟨h1, by unfold noSwapB; rw [h4]; rfl, h3⟩
theorem js_setSt {i : Nat} {cf : CF} {target e : Expr} {ie : IE} {pos : Pos} (hu : unstar target = true) (hi : i < Γ.length) (he : PE X e (tJ cf Γ ie .st)) (hg : PG X target (gName i)) (hs : swapsWithSole [target] e pos.line X.env = pure false) (hw : swappedStores [target] e X.env = pure none) :
    PS X (.Assign [target] e pos) (tS cf res ΓL Γ (.own i .st ie) (Γ.set i .st)) := PSw (ps_asg he hg hs hw (each_one hu _)) fun D σ H ⟨W0, H0, Bk, γ, τ, out, ⟨W, fp, f, b, w, sl, n⟩, e, ok⟩ => by
  simp only [execS, Option.map_eq_some_iff, Prod.exists] at e
  obtain ⟨d, τ1, e1, rfl⟩ := e
  refine ⟨W, fp, γ, τ, d, τ1, w, sl, e1, fun v W1 H1 f1 w1 r1 => ?_⟩
  obtain ⟨rfl, a, c, rfl, hst⟩ := r1
  refine ok _ H1 ⟨W1, _, f.trans f1, b.trans f1.B, w1, ((sl.mono f1).forgetB i).reslot (t := .st) (F := []) hi ⟨rfl, rfl, a, c, rfl, hst⟩ List.nodup_nil (fun j _ a ha => nomatch ha), fun j a m => ?_⟩
  have m : a ∈ (if j = i then [] else fp j) := m
  split at m
  · cases m
  · exact n j a m
theorem kAsg_inv {s : Stmt} {f : Expr → Expr → Bool} (h : kAsg s f = true) : ∃ t e p, s = .Assign [t] e p ∧ f t e = true := by
  unfold kAsg at h; split at h <;> first | exact ⟨_, _, _, rfl, h⟩ | cases h
theorem kMeth_inv {s : Stmt} {m : Str} {f g : Expr → Bool} (h : kMeth s m f g = true) : ∃ a ap b cp p, s = .Expr (.Call (.Attribute a m ap) [b] [] cp) p ∧ plainBase a = true ∧ unstar b = true ∧ (ap.endLine == cp.line) = true ∧ f a = true ∧ g b = true := by
  unfold kMeth at h; split at h <;> first | (obtain ⟨h1, h6⟩ := and_t h; obtain ⟨h1, h5⟩ := and_t h1; obtain ⟨h1, h4⟩ := and_t h1; obtain ⟨h1, h3⟩ := and_t h1; obtain ⟨h1, h2⟩ := and_t h1; cases eq_of_beq h1; exact ⟨_, _, _, _, _, rfl, h2, h3, h4, h5, h6⟩) | cases h
theorem kEx_inv {s : Stmt} {f : Expr → Bool} (h : kEx s f = true) : ∃ e p, s = .Expr e p ∧ isCompr e = false ∧ f e = true := by
  unfold kEx at h; split at h <;> first | (obtain ⟨h1, h2⟩ := and_t h; exact ⟨_, _, rfl, by simpa using h1, h2⟩) | cases h
theorem kRet_inv {s : Stmt} {f : Expr → Bool} (h : kRet s f = true) : ∃ e p, s = .Return (some e) p ∧ f e = true := by
  unfold kRet at h; split at h <;> first | exact ⟨_, _, rfl, h⟩ | cases h
theorem kRetN_inv {s : Stmt} (h : kRetN s = true) : ∃ p, s = .Return none p := by
  unfold kRetN at h; split at h <;> first | exact ⟨_, rfl⟩ | cases h
theorem kBrk_inv {s : Stmt} (h : kBrk s = true) : ∃ p, s = .Break p := by
  unfold kBrk at h; split at h <;> first | exact ⟨_, rfl⟩ | cases h
theorem kCont_inv {s : Stmt} (h : kCont s = true) : ∃ p, s = .Continue p := by
  unfold kCont at h; split at h <;> first | exact ⟨_, rfl⟩ | cases h
theorem kSet_inv {s : Stmt} {f g k : Expr → Bool} (h : kSet s f g k = true) : ∃ a b p e pos, s = .Assign [.Subscript a b p] e pos ∧ noSlice b = true ∧ isCompr e = false ∧ f a = true ∧ g b = true ∧ k e = true := by
  unfold kSet at h; split at h <;> first | (obtain ⟨h1, h5⟩ := and_t h; obtain ⟨h1, h4⟩ := and_t h1; obtain ⟨h1, h3⟩ := and_t h1; obtain ⟨h1, h2⟩ := and_t h1; exact ⟨_, _, _, _, _, rfl, h1, by simpa using h2, h3, h4, h5⟩) | cases h
theorem kFor_inv {s : Stmt} {f : Expr → Expr → Bool} {g : List Stmt → Bool} (h : kFor s f g = true) : ∃ t e b p, s = .For t e b [] p ∧ noSet e = true ∧ f t e = true ∧ g b = true := by
  unfold kFor at h; split at h <;> first | (obtain ⟨h1, h3⟩ := and_t h; obtain ⟨h1, h2⟩ := and_t h1; exact ⟨_, _, _, _, rfl, h1, h2, h3⟩) | cases h
theorem kWhl_inv {s : Stmt} {f : Expr → Bool} {g : List Stmt → Bool} (h : kWhl s f g = true) : ∃ c b p, s = .While c b [] p ∧ f c = true ∧ g b = true := by
  unfold kWhl at h; split at h <;> first | (obtain ⟨h1, h2⟩ := and_t h; exact ⟨_, _, _, rfl, h1, h2⟩) | cases h
theorem kPar_inv {i j : Nat} {s : Stmt} {f : List Expr → Bool} (h : kPar S i j s f = true) : ∃ x px y py k1 p1 a b k2 p2 p, s = .Assign [.Tuple [.Name x px, .Name y py] k1 p1] (.Tuple [a, b] k2 p2) p ∧ S.N[i]? = some x ∧ S.N[j]? = some y ∧ i ≠ j ∧ S.nm.lookup x = some .local ∧ S.nm.lookup y = some .local ∧ px.line = py.line ∧
    [a, b].all (foldedForSure 8) = false ∧ [a, b].all (constantsAlone 8) = false ∧ unstar a = true ∧ unstar b = true ∧ f [a, b] = true := by
  unfold kPar at h
  split at h <;> first | cases h | skip
  simp only [Bool.and_eq_true, decide_eq_true_eq, Bool.not_eq_true'] at h
  obtain ⟨⟨⟨⟨⟨⟨⟨⟨⟨⟨h1, h2⟩, h3⟩, h4⟩, h5⟩, h6⟩, h7⟩, h8⟩, h9⟩, h10⟩, h11⟩ := h
  exact ⟨_, _, _, _, _, _, _, _, _, _, _, rfl, h1, h2, h3, h4, h5, h6, h7, h8, h9, h10, h11⟩
theorem par_stores (c : CO G n X S) {x y : Str} {px py p1 p2 : Pos} {k1 k2 i j : Nat} {a b : Expr} (hi : S.N[i]? = some x) (hj : S.N[j]? = some y) (hij : i ≠ j) (hx : S.nm.lookup x = some .local) (hy : S.nm.lookup y = some .local) (hl : px.line = py.line) (h7 : [a, b].all (foldedForSure 8) = false) (h8 : [a, b].all (constantsAlone 8) = false) (ha : unstar a = true) (hb : unstar b = true) :
    swappedStores [.Tuple [.Name x px, .Name y py] k1 p1] (.Tuple [a, b] k2 p2) X.env = pure (some [x, y]) := by
  have hne : x ≠ y := fun z => by
    subst z
    have h1 := (List.getElem?_eq_some_iff.mp hi)
    have h2 := (List.getElem?_eq_some_iff.mp hj)
    obtain ⟨q1, e1⟩ := h1
    obtain ⟨q2, e2⟩ := h2
    exact hij ((List.getElem_inj c.nd).mp (e1.trans e2.symm))
  unfold swappedStores
  simp only [pure_bind]
  rw [c.blockKind]
  rw [if_neg (show ¬ ((!([Expr.Name x px, Expr.Name y py].length == 2 || [Expr.Name x px, Expr.Name y py].length == 3) || [a, b].length != [Expr.Name x px, Expr.Name y py].length || ScopeKind.function != ScopeKind.function) = true) from fun z => by
    have z : (!(2 == 2 || 2 == 3) || 2 != 2 || ScopeKind.function != ScopeKind.function) = true := z
    exact absurd z (by decide))]
  have e1 : locNms S [.Name x px, .Name y py] = [x, y] := by
    unfold locNms
    simp only [List.head?_cons, Option.map_some, Option.getD_some, List.filterMap_cons, locNm, hx, hy, List.filterMap_nil]
    have : (Expr.Name x px).pos.line = px.line := rfl
    rw [this, hl]
    simp
  have e3 : ([x, y].eraseDups).length = 2 := by
    rw [List.eraseDups_cons]
    have : (y == x) = false := by simpa using fun z => hne z.symm
    simp [this]
    rfl
  have key : ∀ f : Expr → Bool, (∀ e, unstar e = true → f e = false) → ¬ ([a, b].any f = true) := fun f hf => by
    simp [hf a ha, hf b hb]
  rw [if_neg (key _ (fun e he => by cases e <;> first | rfl | exact nomatch he))]
  refine key_some (?_ : _ = [x, y]) rfl e3 h7 h8 rfl
  exact (locNms_eq c [.Name x px, .Name y py]).trans e1
end
end Ev
set_option Elab.async false
set_option linter.all false
set_option maxRecDepth 100000
set_option autoImplicit false
/-! Ev18: .. soundness of the look at statements, blocks, defs. -/
namespace Ev
open PySem PySem.Spec PyProof.Rows L2
section
variable {G : PG0} {n : Nat} {X : Cx} {S : SC} {res : Ty}
theorem gd_inv {b : Bool} {r' : Option (List Ty)} {r : Option (List Ty)} (h : gd b r' = some r) : b = true ∧ r = r' := by
  unfold gd at h
  split at h
  · rename_i q; exact ⟨q, (Option.some.inj h).symm⟩
  · cases h
theorem _root_.L2.PS.wk {cf : CF} {ΓL Γ Γ1 Γ2 : List Ty} {st : Stmt} {is : IS} (h : PS X st (tS cf res ΓL Γ is Γ1)) (k : weak Γ1 Γ2 = true) : PS X st (tS cf res ΓL Γ is Γ2) :=
  PSw h fun D σ H ⟨W0, H0, Bk, γ, τ, out, sx, e, ok⟩ => ⟨W0, H0, Bk, γ, τ, out, sx, e, by
    cases out with
    | nx g t => exact fun σ1 H1 sx1 => ok σ1 H1 (sx1.weak k)
    | bk g t => exact ok
    | ct g t => exact ok
    | rt d t => exact ok⟩
theorem meet_fits {r r' q : Fl} {Γ1 : List Ty} {x : Option (List Ty)} (h : join r r' = some x) (hf : Fits x Γ1) : ∃ a b, r = some a ∧ r' = some b ∧ Fits a Γ1 ∧ Fits b Γ1 := by
  have wt : ∀ {A B C : List Ty}, weak A B = true → weak B C = true → weak A C = true := fun {A B C} h k => by
    unfold weak at h k ⊢
    rw [Bool.and_eq_true, decide_eq_true_eq, List.all_eq_true] at h k ⊢
    obtain ⟨h1, h2⟩ := h
    obtain ⟨k1, k2⟩ := k
    refine ⟨h1.trans k1, fun p hp => ?_⟩
    obtain ⟨i, hi, e⟩ := List.getElem_of_mem hp
    rw [List.length_zip] at hi
    rw [List.getElem_zip] at e
    have m1 := h2 (A[i]'(by omega), B[i]'(by omega)) (by
      have : (A.zip B)[i]'(by rw [List.length_zip]; omega) = (A[i]'(by omega), B[i]'(by omega)) := List.getElem_zip ..
      rw [← this]; exact List.getElem_mem _)
    have m2 := k2 (B[i]'(by omega), C[i]'(by omega)) (by
      have : (B.zip C)[i]'(by rw [List.length_zip]; omega) = (B[i]'(by omega), C[i]'(by omega)) := List.getElem_zip ..
      rw [← this]; exact List.getElem_mem _)
    subst e
    simp only [Bool.or_eq_true, decide_eq_true_eq] at m1 m2 ⊢
    rcases m2 with m2 | m2
    · rcases m1 with m1 | m1
      · exact .inl (m2.trans m1)
      · exact .inr (m2.trans m1)
    · exact .inr m2
  unfold join at h
  split at h
  · exact ⟨none, x, rfl, h, trivial, hf⟩
  · cases h
    exact ⟨_, none, rfl, rfl, hf, trivial⟩
  · split at h
    · rename_i Γ Γ' hw
      obtain ⟨w1, w2⟩ := and_t hw
      cases h
      exact ⟨_, _, rfl, rfl, wt w1 hf, wt w2 hf⟩
    · cases h
  · cases h
theorem fitsB_ok {r : Fl} {Γ : List Ty} (h : fitsB r Γ = true) : ∃ x, r = some x ∧ Fits x Γ := by
  unfold fitsB at h
  split at h
  · exact ⟨_, rfl, trivial⟩
  · exact ⟨_, rfl, h⟩
  · cases h
theorem weak_refl (Γ : List Ty) : weak Γ Γ = true := by
  unfold weak
  rw [Bool.and_eq_true, decide_eq_true_eq, List.all_eq_true]
  refine ⟨rfl, fun p hp => ?_⟩
  obtain ⟨i, hi, e⟩ := List.getElem_of_mem hp
  rw [List.getElem_zip] at e
  subst e
  simp
theorem noComp_sole (S : SC) (t : Expr) {e : Expr} (h : isCompr e = false) : noSwapB S t e = true := by
  unfold noSwapB
  rw [h]
  rfl
theorem kSSet_inv {s : Stmt} {f : Expr → Bool} {k : Nat} {g : Expr → Bool} (h : kSSet s f k g = true) : ∃ a kk p1 p2 e pos, s = .Assign [.Subscript a (.Constant (.int (k : Nat)) kk p1) p2] e pos ∧ isCompr e = false ∧ f a = true ∧ g e = true := by
  unfold kSSet at h; split at h <;> first | (obtain ⟨h1, h4⟩ := and_t h; obtain ⟨h1, h3⟩ := and_t h1; obtain ⟨h1, h2⟩ := and_t h1; cases of_decide_eq_true h1; exact ⟨_, _, _, _, _, _, rfl, by simpa using h2, h3, h4⟩) | cases h
theorem kRetL_inv {s : Stmt} {f : List Expr → Bool} (h : kRetL s f = true) : ∃ es p pos, s = .Return (some (.List es p)) pos ∧ f es = true := by
  unfold kRetL at h; split at h <;> first | exact ⟨_, _, _, rfl, h⟩ | cases h
theorem tm_ok (c : CO G n X S) {i : Nat} : ∀ {es : List Expr} {tm : List (Option Int)}, tmB S i es tm = true → PA X es (tTm i tm)
  | es, [], h => by
    have h : es.isEmpty = true := by cases es <;> exact h
    cases List.isEmpty_iff.mp h
    exact pa_tm0
  | es, q :: tm, h => by
    unfold tmB at h
    split at h
    · rename_i e0
      cases e0
    · rename_i e0
      cases e0
      obtain ⟨h1, h2⟩ := and_t h
      cases of_decide_eq_true h1
      exact pa_tmC (tm_ok c h2)
    · rename_i e0
      cases e0
      obtain ⟨h, h3⟩ := and_t h
      obtain ⟨h1, h2⟩ := and_t h
      exact pa_tmV h1 (name_ok c h2) (tm_ok c h3)
    · cases h
theorem kIf_inv {s : Stmt} {f : Expr → Bool} {g k : List Stmt → Fl} {r : Option (List Ty)} (h : kIf s f g k = some r) : ∃ c a b p, s = .If c a b p ∧ f c = true ∧ join (g a) (k b) = some r := by
  cases s with
  | If c a b p =>
    have h : (if f c = true then join (g a) (k b) else none) = some r := h
    split at h
    · exact ⟨_, _, _, _, rfl, by assumption, h⟩
    · cases h
  | _ => cases h
mutual
theorem chkS_ok (c : CO G n X S) : ∀ (is : IS) {ΓL Γ : List Ty} {st : Stmt} {r : Option (List Ty)}, chkS G S res ΓL Γ is st = some r → ∀ Γ1, Fits r Γ1 → PS X st (tS (callF G.P n) res ΓL Γ is Γ1)
  | .set tg e, ΓL, Γ, st, r, h, Γ1, hf => by
    obtain ⟨hg, er⟩ := gd_inv (show gd (kAsg st fun t' e' => chkTg S tg t' && chk G S Γ (.j .p) e e' && asgB S t' e') (some (setT tg Γ)) = some r from h)
    clear h
    subst er
    have h := hg
    clear hg
    obtain ⟨t', e', p, rfl, h⟩ := kAsg_inv h
    obtain ⟨h1, h3⟩ := and_t h
    obtain ⟨h1, h2⟩ := and_t h1
    exact (set_ok c h1 h2 h3).wk hf
  | .own i t e, ΓL, Γ, st, r, h, Γ1, hf => by
    cases t with
    | o =>
      obtain ⟨hg, er⟩ := gd_inv (show gd (decide (i < Γ.length) && kAsg st fun t' e' => chkTg S (.n i) t' && chk G S Γ .o e e' && asgB S t' e') (some (Γ.set i .o)) = some r from h)
      clear h
      subst er
      have h := hg
      clear hg
      obtain ⟨h0, h⟩ := and_t h
      obtain ⟨t', e', p, rfl, h⟩ := kAsg_inv h
      obtain ⟨h1, h3⟩ := and_t h
      obtain ⟨h1, h2⟩ := and_t h1
      exact (own_ok c (of_decide_eq_true h0) h1 h2 h3).wk hf
    | p =>
      obtain ⟨hg, er⟩ := gd_inv (show gd (kAsg st fun t' e' => chkTg S (.n i) t' && chk G S Γ (.j .p) e e' && (asgB S t' e' && !isCompr e')) (some (Γ.set i .p)) = some r from h)
      clear h
      subst er
      have h := hg
      clear hg
      obtain ⟨t', e', p, rfl, h⟩ := kAsg_inv h
      obtain ⟨h1, h3⟩ := and_t h
      obtain ⟨h1, h2⟩ := and_t h1
      obtain ⟨q1, q2, q3⟩ := asgN c h3
      exact (js_setD q1 (.inl rfl) (chk_ok e c h2 : PE _ _ _) (tgn_name c h1) (sole_false c q2 _) (stores_none c q3)).wk hf
    | pK =>
      obtain ⟨hg, er⟩ := gd_inv (show gd (kAsg st fun t' e' => chkTg S (.n i) t' && chk G S Γ (.j .pK) e e' && (asgB S t' e' && !isCompr e')) (some (Γ.set i .pK)) = some r from h)
      clear h
      subst er
      have h := hg
      clear hg
      obtain ⟨t', e', p, rfl, h⟩ := kAsg_inv h
      obtain ⟨h1, h3⟩ := and_t h
      obtain ⟨h1, h2⟩ := and_t h1
      obtain ⟨q1, q2, q3⟩ := asgN c h3
      exact (js_setD q1 (.inr (.inl rfl)) (chk_ok e c h2 : PE _ _ _) (tgn_name c h1) (sole_false c q2 _) (stores_none c q3)).wk hf
    | pT =>
      obtain ⟨hg, er⟩ := gd_inv (show gd (kAsg st fun t' e' => chkTg S (.n i) t' && chk G S Γ (.j .pT) e e' && (asgB S t' e' && !isCompr e')) (some (Γ.set i .pT)) = some r from h)
      clear h
      subst er
      have h := hg
      clear hg
      obtain ⟨t', e', p, rfl, h⟩ := kAsg_inv h
      obtain ⟨h1, h3⟩ := and_t h
      obtain ⟨h1, h2⟩ := and_t h1
      obtain ⟨q1, q2, q3⟩ := asgN c h3
      exact (js_setD q1 (.inr (.inr rfl)) (chk_ok e c h2 : PE _ _ _) (tgn_name c h1) (sole_false c q2 _) (stores_none c q3)).wk hf
    | st =>
      obtain ⟨hg, er⟩ := gd_inv (show gd (decide (i < Γ.length) && kAsg st fun t' e' => chkTg S (.n i) t' && chk G S Γ (.j .st) e e' && (asgB S t' e' && !isCompr e')) (some (Γ.set i .st)) = some r from h)
      clear h
      subst er
      have h := hg
      clear hg
      obtain ⟨h0, h⟩ := and_t h
      obtain ⟨t', e', p, rfl, h⟩ := kAsg_inv h
      obtain ⟨h1, h3⟩ := and_t h
      obtain ⟨h1, h2⟩ := and_t h1
      obtain ⟨q1, q2, q3⟩ := asgN c h3
      exact (js_setSt q1 (of_decide_eq_true h0) (chk_ok e c h2 : PE _ _ _) (tgn_name c h1) (sole_false c q2 _) (stores_none c q3)).wk hf
    | dK =>
      obtain ⟨hg, er⟩ := gd_inv (show gd (decide (i < Γ.length) && isDnew false e && kAsg st fun t' e' => chkTg S (.n i) t' && isDict0 e' && asgB S t' e') (some (Γ.set i .dK)) = some r from h)
      clear h
      subst er
      have h := hg
      clear hg
      obtain ⟨h0, h⟩ := and_t h
      obtain ⟨h00, hd⟩ := and_t h0
      obtain ⟨t', e', p, rfl, h⟩ := kAsg_inv h
      obtain ⟨h1, h3⟩ := and_t h
      obtain ⟨h11, h2⟩ := and_t h1
      unfold isDict0 at h2
      split at h2 <;> first | contradiction | skip
      obtain ⟨q1, q2, q3⟩ := asgN c (by rw [h3]; rfl)
      unfold isDnew at hd
      split at hd <;> first | contradiction | skip
      cases of_decide_eq_true hd
      exact (js_dnew (t := false) q1 (of_decide_eq_true h00) (tgn_name c h11) (sole_false c q2 _) (stores_none c q3)).wk hf
    | dT =>
      obtain ⟨hg, er⟩ := gd_inv (show gd (decide (i < Γ.length) && isDnew true e && kAsg st fun t' e' => chkTg S (.n i) t' && isDict0 e' && asgB S t' e') (some (Γ.set i .dT)) = some r from h)
      clear h
      subst er
      have h := hg
      clear hg
      obtain ⟨h0, h⟩ := and_t h
      obtain ⟨h00, hd⟩ := and_t h0
      obtain ⟨t', e', p, rfl, h⟩ := kAsg_inv h
      obtain ⟨h1, h3⟩ := and_t h
      obtain ⟨h11, h2⟩ := and_t h1
      unfold isDict0 at h2
      split at h2 <;> first | contradiction | skip
      obtain ⟨q1, q2, q3⟩ := asgN c (by rw [h3]; rfl)
      unfold isDnew at hd
      split at hd <;> first | contradiction | skip
      cases of_decide_eq_true hd
      exact (js_dnew (t := true) q1 (of_decide_eq_true h00) (tgn_name c h11) (sole_false c q2 _) (stores_none c q3)).wk hf
    | u => exact nomatch (show (none : Fl) = some r from h)
    | oo => exact nomatch (show (none : Fl) = some r from h)
    | cl => exact nomatch (show (none : Fl) = some r from h)
  | .par i j a b, ΓL, Γ, st, r, h, Γ1, hf => by
    obtain ⟨hg, er⟩ := gd_inv (show gd (kPar S i j st fun es => chkPs G S Γ [a, b] es) (some ((Γ.set i .p).set j .p)) = some r from h)
    clear h
    subst er
    have h := hg
    clear hg
    obtain ⟨x, px, y, py, k1, p1, a', b', k2, p2, p, rfl, h1, h2, h3, h4, h5, h6, h7, h8, h9, h10, h11⟩ := kPar_inv h
    exact (js_par c.calm (by rw [c.N]; exact c.nd) (by rw [c.N]; exact h1) (by rw [c.N]; exact h2) h3 (by rw [c.nm]; exact h4) (by rw [c.nm]; exact h5) (chkPs_ok [a, b] c h11).1 (par_stores c h1 h2 h3 h4 h5 h6 h7 h8 h9 h10)).wk hf
  | .setix i k e, ΓL, Γ, st, r, h, Γ1, hf => by
    obtain ⟨hg, er⟩ := gd_inv (show gd (decide (ty Γ i = .o) && kSet st (nameB S i) (fun x => chk G S Γ .b k x) (fun x => chk G S Γ (.j .p) e x)) (some Γ) = some r from h)
    clear h
    subst er
    have h := hg
    clear hg
    obtain ⟨h0, h⟩ := and_t h
    obtain ⟨a, b, p, e', pos, rfl, h1, h2, h3, h4, h5⟩ := kSet_inv h
    refine (js_setix h1 (name_ok c h3) (of_decide_eq_true h0) (chk_ok e c h5 : PE _ _ _) (chk_ok k c h4 : PE _ _ _) (sole_false c (noComp_sole S _ h2) _) ?_).wk hf
    exact stores_none c (by unfold noStB; cases e' <;> rfl)
  | .app i e, ΓL, Γ, st, r, h, Γ1, hf => by
    obtain ⟨hg, er⟩ := gd_inv (show gd (decide (ty Γ i = .o) && kMeth st "append" (nameB S i) (fun x => chk G S Γ (.j .p) e x)) (some Γ) = some r from h)
    clear h
    subst er
    have h := hg
    clear hg
    obtain ⟨h0, h⟩ := and_t h
    obtain ⟨a, ap, b, cp, p, rfl, h1, h2, h3, h4, h5⟩ := kMeth_inv h
    exact (js_app (name_ok c h4) h1 (of_decide_eq_true h0) (chk_ok e c h5 : PE _ _ _) h2 h3).wk hf
  | .ext i e, ΓL, Γ, st, r, h, Γ1, hf => by
    obtain ⟨hg, er⟩ := gd_inv (show gd (decide (ty Γ i = .o) && kMeth st "extend" (nameB S i) (fun x => chk G S Γ (.j .p) e x)) (some Γ) = some r from h)
    clear h
    subst er
    have h := hg
    clear hg
    obtain ⟨h0, h⟩ := and_t h
    obtain ⟨a, ap, b, cp, p, rfl, h1, h2, h3, h4, h5⟩ := kMeth_inv h
    exact (js_ext (name_ok c h4) h1 (of_decide_eq_true h0) (chk_ok e c h5 : PE _ _ _) h2 h3).wk hf
  | .ex e, ΓL, Γ, st, r, h, Γ1, hf => by
    obtain ⟨hg, er⟩ := gd_inv (show gd (kEx st fun x => chk G S Γ (.j .p) e x) (some Γ) = some r from h)
    clear h
    subst er
    have h := hg
    clear hg
    obtain ⟨e', p, rfl, h1, h2⟩ := kEx_inv h
    exact (js_ex (chk_ok e c h2 : PE _ _ _) (by cases e' <;> first | rfl | cases h1)).wk hf
  | .ret e, ΓL, Γ, st, r, h, Γ1, hf => by
    obtain ⟨hg, er⟩ := gd_inv (show gd (kRet st fun x => chk G S Γ (.j res) e x) none = some r from h)
    clear h
    subst er
    have h := hg
    clear hg
    obtain ⟨e', p, rfl, h1⟩ := kRet_inv h
    exact js_ret (chk_ok e c h1 : PE _ _ _)
  | .retN, ΓL, Γ, st, r, h, Γ1, hf => by
    obtain ⟨hg, er⟩ := gd_inv (show gd (kRetN st && decide (res = .p)) none = some r from h)
    clear h
    subst er
    have h := hg
    clear hg
    obtain ⟨h1, h2⟩ := and_t h
    obtain ⟨p, rfl⟩ := kRetN_inv h1
    exact js_retN (of_decide_eq_true h2)
  | .ite d a b, ΓL, Γ, st, r, h, Γ1, hf => by
    have h : kIf st (fun x => chk G S Γ .t d x) (fun l => chkSs G S res ΓL Γ a l) (fun l => chkSs G S res ΓL Γ b l) = some r := h
    obtain ⟨d', a', b', p, rfl, hd, h⟩ := kIf_inv h
    · · obtain ⟨ra, rb, h1, h2, f1, f2⟩ := meet_fits (q := none) h hf
        have gdt : Good (callF G.P n) Γ X .t d d' := chk_ok d c hd
        exact js_ite gdt.1 (chkSs_ok c a h1 Γ1 f1) (chkSs_ok c b h2 Γ1 f2)
  | .for tg k args body ks Gl, ΓL, Γ, st, r, h, Γ1, hf => by
    obtain ⟨hg, er⟩ := gd_inv (show gd (weak Γ Gl && killB ks Gl && kFor st (fun t' e' => chkTg S tg t' && chkI G S Γ true k args t' e') (fun l => fitsB (chkSs G S res Gl (setT tg Gl) body l) Gl)) (some Gl) = some r from h)
    clear h
    subst er
    have h := hg
    clear hg
    obtain ⟨h0, h⟩ := and_t h
    obtain ⟨h0, hk⟩ := and_t h0
    obtain ⟨t', e', b', p, rfl, h1, h2, h3⟩ := kFor_inv h
    obtain ⟨h4, h5⟩ := and_t h2
    obtain ⟨x, e1, f1⟩ := fitsB_ok h3
    exact (js_for c.xe c.calm h0 ((chkI_ok args c h5).1 rfl) (tg_ok c tg t' h4) (chkSs_ok c body e1 Gl f1) (weak_refl Gl) (fun i m => by unfold killB at hk; rw [List.all_eq_true] at hk; exact of_decide_eq_true (hk i m)) (fun x => folded_ok h1 _ x)).wk hf
  | .whl d body ks Gl, ΓL, Γ, st, r, h, Γ1, hf => by
    obtain ⟨hg, er⟩ := gd_inv (show gd (weak Γ Gl && killB ks Gl && kWhl st (fun x => chk G S Gl .t d x) (fun l => fitsB (chkSs G S res Gl Gl body l) Gl)) (some Gl) = some r from h)
    clear h
    subst er
    have h := hg
    clear hg
    obtain ⟨h0, h⟩ := and_t h
    obtain ⟨h0, hk⟩ := and_t h0
    obtain ⟨d', b', p, rfl, h2, h3⟩ := kWhl_inv h
    obtain ⟨x, e1, f1⟩ := fitsB_ok h3
    have gdt : Good (callF G.P n) Gl X .t d d' := chk_ok d c h2
    exact (js_whl c.xe h0 gdt.1 (chkSs_ok c body e1 Gl f1) (weak_refl Gl) (fun i m => by unfold killB at hk; rw [List.all_eq_true] at hk; exact of_decide_eq_true (hk i m))).wk hf
  | .brk, ΓL, Γ, st, r, h, Γ1, hf => by
    obtain ⟨hg, er⟩ := gd_inv (show gd (kBrk st && weak Γ ΓL) none = some r from h)
    clear h
    subst er
    have h := hg
    clear hg
    obtain ⟨h1, h2⟩ := and_t h
    obtain ⟨p, rfl⟩ := kBrk_inv h1
    exact js_brk h2
  | .cont, ΓL, Γ, st, r, h, Γ1, hf => by
    obtain ⟨hg, er⟩ := gd_inv (show gd (kCont st && weak Γ ΓL) none = some r from h)
    clear h
    subst er
    have h := hg
    clear hg
    obtain ⟨h1, h2⟩ := and_t h
    obtain ⟨p, rfl⟩ := kCont_inv h1
    exact js_cont h2
  | .setix2 _ _ _ _, ΓL, Γ, st, r, h, Γ1, hf => nomatch (show (none : Fl) = some r from h)
  | .setd _ _ _ _, ΓL, Γ, st, r, h, Γ1, hf => nomatch (show (none : Fl) = some r from h)
  | .pop _ _, ΓL, Γ, st, r, h, Γ1, hf => nomatch (show (none : Fl) = some r from h)
  | .frz _, ΓL, Γ, st, r, h, Γ1, hf => nomatch (show (none : Fl) = some r from h)
  | .cget j i k, ΓL, Γ, st, r, h, Γ1, hf => by
    obtain ⟨hg, er⟩ := gd_inv (show gd (decide (j < Γ.length) && decide (ty Γ i = .st) && kAsg st fun t' e' => chkTg S (.n j) t' && kStx e' (nameB S i) k) (some (Γ.set j .cl)) = some r from h)
    clear h
    subst er
    have h := hg
    clear hg
    obtain ⟨h0, h⟩ := and_t h
    obtain ⟨hj, ht⟩ := and_t h0
    obtain ⟨t', e', p, rfl, h⟩ := kAsg_inv h
    obtain ⟨h1, h2⟩ := and_t h
    obtain ⟨a, kk, p1, p2, rfl, h3⟩ := kStx_inv h2
    have hu : unstar t' = true := by
      cases t' <;> first | rfl | exact nomatch (show false = true from h1)
    have hw : noStB S t' (.Subscript a (.Constant (.int (k : Nat)) kk p1) p2) = true := by
      cases t' <;> first | rfl | exact nomatch (show false = true from h1)
    exact (js_cget hu (of_decide_eq_true hj) (name_ok c h3) (of_decide_eq_true ht) (tgn_name c h1) (sole_false c (noComp_sole S _ rfl) _) (stores_none c hw)).wk hf
  | .cset i k e, ΓL, Γ, st, r, h, Γ1, hf => by
    obtain ⟨hg, er⟩ := gd_inv (show gd (decide (ty Γ i = .cl) && kSet st (nameB S i) (fun x => chk G S Γ .b k x) (fun x => chk G S Γ (.j .p) e x)) (some Γ) = some r from h)
    clear h
    subst er
    have h := hg
    clear hg
    obtain ⟨h0, h⟩ := and_t h
    obtain ⟨a, b, p, e', pos, rfl, h1, h2, h3, h4, h5⟩ := kSet_inv h
    refine (js_cset h1 (name_ok c h3) (of_decide_eq_true h0) (chk_ok e c h5 : PE _ _ _) (chk_ok k c h4 : PE _ _ _) (sole_false c (noComp_sole S _ h2) _) ?_).wk hf
    exact stores_none c (by unfold noStB; cases e' <;> rfl)
  | .sset i k e, ΓL, Γ, st, r, h, Γ1, hf => by
    obtain ⟨hg, er⟩ := gd_inv (show gd (decide (ty Γ i = .st) && kSSet st (nameB S i) k (fun x => chk G S Γ (.j .p) e x)) (some Γ) = some r from h)
    clear h
    subst er
    have h := hg
    clear hg
    obtain ⟨h0, h⟩ := and_t h
    obtain ⟨a, kk, p1, p2, e', pos, rfl, h1, h2, h3⟩ := kSSet_inv h
    refine (js_sset (name_ok c h2) (of_decide_eq_true h0) (chk_ok e c h3 : PE _ _ _) (sole_false c (noComp_sole S _ h1) _) ?_).wk hf
    exact stores_none c (by unfold noStB; cases e' <;> rfl)
  | .retSt i tm, ΓL, Γ, st, r, h, Γ1, hf => by
    obtain ⟨hg, er⟩ := gd_inv (show gd (decide (res = .st) && decide (ty Γ i = .o) && decide (tm.length ≤ 1000) && kRetL st (fun es => tmB S i es tm)) none = some r from h)
    clear h
    subst er
    have h := hg
    clear hg
    obtain ⟨h0, h⟩ := and_t h
    obtain ⟨h0, hl⟩ := and_t h0
    obtain ⟨hr, ht⟩ := and_t h0
    obtain ⟨es, p, pos, rfl, h1⟩ := kRetL_inv h
    exact js_retSt (of_decide_eq_true hr) (of_decide_eq_true ht) (of_decide_eq_true hl) (tm_ok c h1)
theorem chkSs_ok (c : CO G n X S) : ∀ (iss : List IS) {ΓL Γ : List Ty} {sts : List Stmt} {r : Option (List Ty)}, chkSs G S res ΓL Γ iss sts = some r → ∀ Γ1, Fits r Γ1 → PSs X sts (tSs (callF G.P n) res ΓL Γ iss Γ1)
  | [], ΓL, Γ, sts, r, h, Γ1, hf => by
    cases sts with
    | nil =>
      cases (show some (some Γ) = some r from h)
      exact jss_weak jss_nil hf
    | cons s ss => exact nomatch (show (none : Fl) = some r from h)
  | i :: is, ΓL, Γ, sts, r, h, Γ1, hf => by
    by_cases hz : ∃ k, i = .frz k
    · obtain ⟨k, rfl⟩ := hz
      have h : (match frzT (ty Γ k) with | some t => chkSs G S res ΓL (Γ.set k t) is sts | none => none) = some r := h
      cases ht : frzT (ty Γ k) with
      | none => rw [ht] at h; cases h
      | some t =>
        rw [ht] at h
        exact jss_frz ht (chkSs_ok c is h Γ1 hf)
    · have hnf : chkSs.isFrz i = none := by
        cases i <;> first | rfl | exact absurd ⟨_, rfl⟩ hz
      have h : (match (generalizing := false) chkSs.isFrz i with
        | some k => (match frzT (ty Γ k) with | some t => chkSs G S res ΓL (Γ.set k t) is sts | none => none)
        | none => (match (generalizing := false) sts with
          | [] => none
          | s :: ss => (match chkS G S res ΓL Γ i s with
            | none => none
            | some none => if is.isEmpty && ss.isEmpty then some none else none
            | some (some Γ1) => chkSs G S res ΓL Γ1 is ss) : Fl)) = some r := h
      rw [hnf] at h
      cases sts with
      | nil => cases h
      | cons s ss =>
        have h : (match (generalizing := false) chkS G S res ΓL Γ i s with
            | none => none
            | some none => if is.isEmpty && ss.isEmpty then some none else none
            | some (some Γ1) => chkSs G S res ΓL Γ1 is ss : Fl) = some r := h
        cases hs : chkS G S res ΓL Γ i s with
        | none => rw [hs] at h; cases h
        | some q =>
          rw [hs] at h
          cases q with
          | none =>
            have h : (if (is.isEmpty && ss.isEmpty) = true then some none else none : Fl) = some r := h
            split at h
            · rename_i hq
              obtain ⟨h1, h2⟩ := and_t hq
              have e1 := List.isEmpty_iff.mp h1
              have e2 := List.isEmpty_iff.mp h2
              subst e1 e2
              exact jss_cons (chkS_ok c i hs Γ1 trivial) jss_nil
            · cases h
          | some Γ2 => exact jss_cons (chkS_ok c i hs Γ2 (weak_refl Γ2)) (chkSs_ok c is h Γ1 hf)
end
end
end Ev
set_option Elab.async false
set_option linter.all false
set_option maxRecDepth 100000
set_option autoImplicit false
/-! Ev19: defs. -/
namespace Ev
open PySem PySem.Spec PyProof.Rows L2
def okEnd (res : Ty) : Fl → Bool
  | some none => true
  | some (some _) => decide (res = .p)
  | none => false
def parTy (t : Ty) : Bool := decide (t = .p) || decide (t = .pK) || decide (t = .pT) || decide (t = .st)
def chkD (G : PG0) (N ps : List Str) (pty : List Ty) (res : Ty) (b : List IS) (st : Stmt) : Bool :=
  decide N.Nodup && decide ((defScope st).kind = .function) && !(defScope st).isCoroutine && !(defScope st).isGenerator && decide (N.take ps.length = ps) && ps.all (fun x => decide ((defScope st).names.lookup x = some .local) || decide ((defScope st).names.lookup x = some .cell))
  && (defScope st).names.all (fun y => decide (y.2 ≠ .free)) && decide (pty.length = ps.length) && pty.all parTy && okEnd res (chkSs G ⟨N, (defScope st).names, none⟩ res [] (pty ++ List.replicate (N.length - pty.length) .u) b (defBody st))
theorem getD_append_lt {α : Type} {l r : List α} {i : Nat} {d : α} (h : i < l.length) : (l ++ r).getD i d = l.getD i d := by
  rw [List.getD_eq_getElem?_getD, List.getD_eq_getElem?_getD, List.getElem?_append_left h]
theorem getD_rep {α : Type} {l : List α} {n i : Nat} {d : α} (h : ¬ i < l.length) : (l ++ List.replicate n d).getD i d = d := by
  rw [List.getD_eq_getElem?_getD, List.getElem?_append_right (by omega)]
  by_cases c : i - l.length < n
  · rw [List.getElem?_replicate, if_pos c]; rfl
  · rw [List.getElem?_replicate, if_neg c]; rfl
theorem JvA.get {W : Wd} : ∀ {ts : List Ty} {vs : List V} {ds : List D}, JvA W ts vs ds → ∀ i, i < ts.length → ∃ t v d, ts[i]? = some t ∧ vs[i]? = some v ∧ ds[i]? = some d ∧ Jv W t v d
  | [], [], [], _, i, hi => absurd hi (by simp)
  | t :: ts, v :: vs, d :: ds, h, 0, _ => ⟨t, v, d, rfl, rfl, rfl, h.1⟩
  | t :: ts, v :: vs, d :: ds, h, i + 1, hi => by
    obtain ⟨t', v', d', h1, h2, h3, h4⟩ := JvA.get h.2 i (by simpa using hi)
    exact ⟨t', v', d', by simpa using h1, by simpa using h2, by simpa using h3, h4⟩
theorem jv_slot {W : Wd} {H : Hp} {t : Ty} {v : V} {d : D} (h : Jv W t v d) (ht : parTy t = true) : Slot W H t (some d) (some v) [] := by
  cases t with
  | p => exact ⟨rfl, d, v, rfl, rfl, h⟩
  | pK => exact ⟨rfl, d, v, rfl, rfl, h⟩
  | pT => exact ⟨rfl, d, v, rfl, rfl, h⟩
  | st =>
    obtain ⟨rfl, a, c, rfl, e⟩ := h
    exact ⟨rfl, rfl, a, c, rfl, e⟩
  | _ => cases ht
theorem sl_start {W : Wd} {H : Hp} {ts : List Ty} {vs : List V} {ds : List D} {N : List Str} (h : JvA W ts vs ds) (hp : ts.all parTy = true) : SL W (fun _ => []) (ts ++ List.replicate (N.length - ts.length) .u) (ds.map some ++ List.replicate (N.length - ds.length) none) (L2.start N vs) H := by
  obtain ⟨l1, l2⟩ := h.len
  refine ⟨fun i => ?_, fun _ => List.nodup_nil, fun i j _ a m => (List.not_mem_nil m).elim, ?_, ?_⟩
  · by_cases hi : i < ts.length
    · obtain ⟨t, v, d, h1, h2, h3, h4⟩ := h.get i hi
      have ht : parTy t = true := by
        rw [List.all_eq_true] at hp
        exact hp t (List.mem_iff_getElem?.mpr ⟨i, h1⟩)
      unfold ty rd L2.start
      rw [getD_append_lt hi, getD_append_lt (by rw [List.length_map]; omega), getD_append_lt (by rw [List.length_map]; omega), List.getD_eq_getElem?_getD, h1, List.getD_eq_getElem?_getD, List.getElem?_map, h3, List.getD_eq_getElem?_getD, List.getElem?_map, h2]
      exact jv_slot h4 ht
    · have : ty (ts ++ List.replicate (N.length - ts.length) .u) i = .u := getD_rep hi
      rw [this]
      rfl
  · unfold L2.start
    simp only [List.length_append, List.length_map, List.length_replicate]
    omega
  · unfold L2.start
    simp only [List.length_append, List.length_map, List.length_replicate]
    omega
theorem runB_some {cf : CF} {nv : Nat} {b : List IS} {ds : List D} {τ τ' : Tape} {d : D} (h : runB cf nv b ds τ = some (d, τ')) :
    ∃ o, execSs cf b (ds.map some ++ List.replicate (nv - ds.length) none) τ = some o ∧ ((∃ γ, o = .nx γ τ' ∧ d = .none) ∨ o = .rt d τ') := by
  unfold runB at h
  obtain ⟨o, e1, e2⟩ := Option.bind_eq_some_iff.mp h
  refine ⟨o, e1, ?_⟩
  cases o with
  | nx γ t => cases e2; exact .inl ⟨γ, rfl, rfl⟩
  | bk γ t => cases e2
  | ct γ t => cases e2
  | rt d t => cases e2; exact .inr rfl
/-- a def of the text behind the top -/
abbrev FnP (K : PySem.W.Frag) (x : Str) (st : Stmt) (f : Addr) (fd : FuncData) : Prop := FunD K x x (defArgs st) (defBody st) (defScope st) [] [] f fd
theorem fnP_ok {P : Program} {w : World} {K : PySem.W.Frag} {mg : Str → Option Value} {base : Heap} {x : Str} {st : Stmt} {f : Addr} {fd : FuncData} {N ps : List Str} {k : Nat} {sp : Sp} (F : FnP K x st f fd) (S : FnScope N ps (defScope st)) (len : ∀ vs H Q E, sp vs H Q E → vs.length = ps.length)
    (hbody : ∀ (cdv : Value) (A : Around) (outer : List PySem.Env) (s : Shared) (H : Hp) (vs : List V) (Q : VK) (E : XK), Room k (A.deeper (envOfC x (defScope st) s.heap.objs.size f cdv)) → sp vs H Q E →
      ∃ t, PSs (cxOf CX0 P w K mg base N x (defScope st) f cdv A outer s H E).nox (defBody st) t ∧ t { nx := fun _ H' => Q .non H', rt := Q } (L2.start N vs) H) : FnOk P w K mg base CX0 (k + 1) f fd ps sp :=
  F.ok S len fun cdv A outer s H vs Q E hr h => let ⟨t, h1, h2⟩ := hbody cdv A outer s H vs Q E hr h; ⟨t, h1.nox, h2⟩
section
variable {P : Program} {w : World} {K : PySem.W.Frag} {mg : Str → Option Value} {base : Heap} {G : PG0}
/-- what the defs' facts give at a depth -/
def Calls (P : Program) (w : World) (K : PySem.W.Frag) (mg : Str → Option Value) (base : Heap) (G : PG0) (n : Nat) : Prop :=
  ∀ f fd x, G.P[f]? = some fd → G.fn[f]? = some x → ∃ fa fdt ps, FnOk P w K mg base CX0 n fa fdt ps (spC (callF G.P n) fd.pty fd.res f) ∧ mg x = some (.ref fa) ∧ PySem.W.keepIn K (.ref fa) = true ∧ Binds K fdt ps []
theorem body_ok {n f : Nat} (hbl : ∀ x ∈ G.bl, mg x = none) (hc : Calls P w K mg base G n) {x : Str} {st : Stmt} {fa : Addr} {fdt : FuncData} {N ps : List Str} {pty : List Ty} {res : Ty} {b : List IS} (F : FnP K x st fa fdt) (hf : G.P[f]? = some (.body pty res N.length b)) (h : chkD G N ps pty res b st = true) :
    FnOk P w K mg base CX0 (n + 1) fa fdt ps (spC (callF G.P (n + 1)) pty res f) := by
  unfold chkD at h
  obtain ⟨h, h10⟩ := and_t h
  obtain ⟨h, h9⟩ := and_t h
  obtain ⟨h, h8⟩ := and_t h
  obtain ⟨h, h7⟩ := and_t h
  obtain ⟨h, h6⟩ := and_t h
  obtain ⟨h, h5⟩ := and_t h
  obtain ⟨h, h4⟩ := and_t h
  obtain ⟨h, h3⟩ := and_t h
  obtain ⟨h1, h2⟩ := and_t h
  have h8 : pty.length = ps.length := of_decide_eq_true h8
  have hnd : N.Nodup := of_decide_eq_true h1
  refine fnP_ok F ⟨of_decide_eq_true h2, by simpa using h3, by simpa using h4, hnd, of_decide_eq_true h5, fun y hy => ?_, fun y hy => ?_⟩ (fun vs H Q E s => s.1.trans h8) fun cdv A outer s H vs Q E hr sp => ?_
  · rw [List.all_eq_true] at h6
    have := h6 y hy
    simpa using this
  · rw [List.all_eq_true] at h7
    exact of_decide_eq_true (h7 y hy)
  · obtain ⟨hl, W, τ, ds, d, τ', w', r, e, q⟩ := sp
    have e : (match G.P[f]? with | some (.body _ _ nv b) => runB (callF G.P n) nv b ds τ | some (.prim _ _ g) => g ds τ | none => none : R) = some (d, τ') := e
    rw [hf] at e
    have e : runB (callF G.P n) N.length b ds τ = some (d, τ') := e
    obtain ⟨o, e1, e2⟩ := runB_some e
    have co : CO G n (cxOf CX0 P w K mg base N x (defScope st) fa cdv A outer s H E).nox ⟨N, (defScope st).names, none⟩ := ⟨rfl, hnd, rfl, of_decide_eq_true h2, rfl, rfl, hr, fun _ _ => rfl, hbl, hc⟩
    have fin : ∀ v W' H', FrE W H W' H' → WI W' τ' H' → Jv W' res v d → Q v H' := q
    cases hr' : chkSs G ⟨N, (defScope st).names, none⟩ res [] (pty ++ List.replicate (N.length - pty.length) .u) b (defBody st) with
    | none => rw [hr'] at h10; cases h10
    | some rr =>
      rw [hr'] at h10
      have key : ∀ Γ1, Fits rr Γ1 → (rr = none ∨ res = .p) → (rr = none → ∀ γ t, o ≠ .nx γ t) → ∃ t, PSs (cxOf CX0 P w K mg base N x (defScope st) fa cdv A outer s H E).nox (defBody st) t ∧ t { nx := fun _ H' => Q .non H', rt := Q } (L2.start N vs) H := fun Γ1 hfit hres hno => by
        refine ⟨_, chkSs_ok co b hr' Γ1 hfit, W, H, W.B, _, τ, o, ⟨W, fun _ => [], FrE.refl W H, Same.refl _, w', sl_start r h9, fun i a m => (List.not_mem_nil m).elim⟩, e1, ?_⟩
        rcases e2 with ⟨γ, rfl, rfl⟩ | rfl
        · intro σ1 H1 ⟨W1, fp, f1, b1, w1, sl1, n1⟩
          rcases hres with hres | hres
          · exact absurd rfl (hno hres _ _)
          · exact fin .non W1 H1 f1 w1 (by rw [hres]; exact .non)
        · intro v H1 ⟨W1, f1, w1, r1⟩
          exact fin v W1 H1 f1 w1 r1
      cases rr with
      | none =>
        by_cases hnx : ∃ γ t, o = .nx γ t
        · -- a block that never ends by itself does not: any claim of its end may be asked
          obtain ⟨γ, t, rfl⟩ := hnx
          refine ⟨_, chkSs_ok co b hr' (List.replicate (γ.length + 1) .u) trivial, W, H, W.B, _, τ, _, ⟨W, fun _ => [], FrE.refl W H, Same.refl _, w', sl_start r h9, fun i a m => (List.not_mem_nil m).elim⟩, e1, ?_⟩
          intro σ1 H1 ⟨W1, fp, f1, b1, w1, sl1, n1⟩
          have l1 := sl1.lenG
          have l2 := sl1.len
          rw [List.length_replicate] at l1
          omega
        · exact key [] trivial (.inl rfl) fun _ γ t z => hnx ⟨γ, t, z⟩
      | some Γ' => exact key Γ' (weak_refl Γ') (.inr (of_decide_eq_true h10)) (fun z => nomatch z)
end
end Ev
set_option Elab.async false
set_option linter.all false
set_option maxRecDepth 100000
set_option autoImplicit false
/-! Ev20: the script and the drawing state that is made of it. -/
namespace Ev
open PySem PySem.Spec PyProof.Rows L2
def W00 : Wd := ⟨fun _ => none, none⟩
theorem wi00 (H : Hp) : WI W00 none H := ⟨fun _ _ e => (nomatch e), .off rfl⟩
def absI (i : Int) : Int := if i < 0 then -i else i
def cellsOf (ns : List Int) : List Int := if ns.length = 0 then [0] else ns.map absI
def tape0 (ns : List Int) : List D := [.int 0, .list ((cellsOf ns).map .int)]
/-- the promise of _law_state -/
def spS (K : PySem.W.Frag) : Sp := fun vs H Q _ => ∃ (a : Addr) (ns : List Int), vs = [.ref a] ∧ SqL K H a (ns.map V.int) ∧ ns.length ≤ 63 ∧ ∀ v W' H', FrE W00 H W' H' → WI W' (some (tape0 ns)) H' → Jv W' .st v .none → Q v H'
/-- the head's script, cut -/
def tiS (K : PySem.W.Frag) : TI := fun σ H R => ∃ (a : Addr) (xs : List V), σ[0]? = some (some (.ref a)) ∧ SqL K H a xs ∧ ∀ p, H p = none → R (Itl K p) (upd H p (.lst (cutV xs none (some 63))))
theorem pi_scr {X : Cx} {tg e : Expr} {kk : Nat} {p1 p2 p3 : Pos} (he : PE X e (tVar 0)) : PI X tg (.Subscript e (.Slice none (some (.Constant (.int 63) kk p1)) none p2) p3) (tiS X.K) :=
  PIw (pi_seq (pe_slice sl_list he po_none (po_some pe_int))) fun σ H R ⟨a, xs, e1, q1, q2⟩ => ⟨.ref a, e1, _, rfl, a, xs, rfl, q1, fun p hp => ⟨p, rfl, .inl ⟨⟨_, SqL.of upd_same⟩, q2 p hp⟩⟩⟩
theorem cut63 {ns : List Int} (h : ns.length ≤ 63) : cutV (ns.map V.int) none (some 63) = ns.map V.int := by
  unfold cutV
  rw [HT.sIx_none, show (some (63 : Int)) = some ((63 : Nat) : Int) from rfl, HT.sIx_nat, List.drop_zero, List.length_map]
  rw [show min 63 ns.length - 0 = ns.length by omega]
  rw [List.take_of_length_le (by rw [List.length_map]; omega)]
def kScr (S : SC) (s : Stmt) (w : Scope → Expr → Bool) (f : Scope → Bool) (g : Scope → Expr → Bool) : Bool := match s with
  | .Assign [t] (.ListComp elt [⟨tg, .Subscript e (.Slice none (some (.Constant (.int 63) kk p1)) none p2) p3, [], 0⟩] sc p) pos =>
    chkTg S (.n 1) t && swapB S t (.ListComp elt [⟨tg, .Subscript e (.Slice none (some (.Constant (.int 63) kk p1)) none p2) p3, [], 0⟩] sc p) && nameB S 0 e && f sc && g sc tg && w sc elt
  | _ => false
theorem kScr_inv {S : SC} {s : Stmt} {w : Scope → Expr → Bool} {f : Scope → Bool} {g : Scope → Expr → Bool} (h : kScr S s w f g = true) : ∃ t elt tg e kk p1 p2 p3 sc p pos, s = .Assign [t] (.ListComp elt [⟨tg, .Subscript e (.Slice none (some (.Constant (.int 63) kk p1)) none p2) p3, [], 0⟩] sc p) pos ∧
    chkTg S (.n 1) t = true ∧ swapB S t (.ListComp elt [⟨tg, .Subscript e (.Slice none (some (.Constant (.int 63) kk p1)) none p2) p3, [], 0⟩] sc p) = true ∧ nameB S 0 e = true ∧ f sc = true ∧ g sc tg = true ∧ w sc elt = true := by
  unfold kScr at h
  split at h
  · obtain ⟨h, k6⟩ := and_t h
    obtain ⟨h, k5⟩ := and_t h
    obtain ⟨h, k4⟩ := and_t h
    obtain ⟨h, k3⟩ := and_t h
    obtain ⟨k1, k2⟩ := and_t h
    exact ⟨_, _, _, _, _, _, _, _, _, _, _, rfl, k1, k2, k3, k4, k5, k6⟩
  · cases h
def irS : List IS := [.ite (.cmp .eq (.b1 .len (.v 1)) (.c (.int 0))) [.own 1 .o (.lst [.c (.int 0)])] [], .retSt 1 [some 0, none]]
def GS (bl : List Str) : PG0 := ⟨[], [], bl⟩
def chkScr (bl : List Str) (N : List Str) (st : Stmt) : Bool := match defBody st with
  | s :: ss => decide (N.length = 3) && kScr ⟨N, (defScope st).names, none⟩ s (fun sc x => chk (GS bl) ((⟨N, (defScope st).names, none⟩ : SC).blk sc) (setT (.n 2) (unk [.u, .u, .u] [2])) (.j .p) (.b1 .abs (.v 2)) x)
      (fun sc => blkB ⟨N, (defScope st).names, none⟩ sc [2]) (fun sc t => chkTg ((⟨N, (defScope st).names, none⟩ : SC).blk sc) (.n 2) t)
      && decide (chkSs (GS bl) ⟨N, (defScope st).names, none⟩ .st [] [.u, .o, .u] irS ss = some none)
  | [] => false
def chkSc (N ps : List Str) (st : Stmt) : Bool := decide N.Nodup && decide ((defScope st).kind = .function) && !(defScope st).isCoroutine && !(defScope st).isGenerator && decide (N.take ps.length = ps) && ps.all (fun x => decide ((defScope st).names.lookup x = some .local) || decide ((defScope st).names.lookup x = some .cell))
  && (defScope st).names.all (fun y => decide (y.2 ≠ .free))
theorem fnScope_ok {N ps : List Str} {st : Stmt} (h : chkSc N ps st = true) : FnScope N ps (defScope st) ∧ N.Nodup ∧ (defScope st).kind = .function := by
  unfold chkSc at h
  obtain ⟨h, h7⟩ := and_t h
  obtain ⟨h, h6⟩ := and_t h
  obtain ⟨h, h5⟩ := and_t h
  obtain ⟨h, h4⟩ := and_t h
  obtain ⟨h, h3⟩ := and_t h
  obtain ⟨h1, h2⟩ := and_t h
  refine ⟨⟨of_decide_eq_true h2, by simpa using h3, by simpa using h4, of_decide_eq_true h1, of_decide_eq_true h5, fun y hy => ?_, fun y hy => ?_⟩, of_decide_eq_true h1, of_decide_eq_true h2⟩
  · rw [List.all_eq_true] at h6
    have := h6 y hy
    simpa using this
  · rw [List.all_eq_true] at h7
    exact of_decide_eq_true (h7 y hy)
theorem compL_abs (cf : CF) (g0 g1 g2 : Option D) : ∀ ns : List Int, compL (lcF cf (.n 2) .yes (.b1 .abs (.v 2)) [g0, g1, g2]) (ns.map .int) none = some ((ns.map absI).map .int, none)
  | [] => rfl
  | i :: r => by
    have e : lcF cf (.n 2) .yes (.b1 .abs (.v 2)) [g0, g1, g2] (.int i) none = some (some (.int (absI i)), none) := by
      simp [lcF, bindT, tst, evalE, truth, rd, opB1, bAbs, absI]
    rw [List.map_cons, compL, e, Option.bind_some]
    show (compL _ _ none).map _ = _
    rw [compL_abs cf g0 g1 g2 r]
    rfl
theorem eqv_int (i j : Int) : PyData.eqv (.int i) (.int j) = (i == j) := by simp only [PyData.eqv]
theorem rpa_ints (B : Hp) : ∀ ns : List Int, RpA B (ns.map V.int) (ns.map PyData.int)
  | [] => .nil
  | i :: r => .cons (.int i) (rpa_ints B r)
section
variable {P : Program} {w : World} {K : PySem.W.Frag} {mg : Str → Option Value} {base : Heap}
theorem state_ok {bl : List Str} {n : Nat} (hbl : ∀ x ∈ bl, mg x = none) {x p : Str} {st : Stmt} {fa : Addr} {fdt : FuncData} {N : List Str} (F : FnP K x st fa fdt) (h1 : chkSc N [p] st = true) (h2 : chkScr bl N st = true) :
    FnOk P w K mg base CX0 (n + 1) fa fdt [p] (spS K) := by
  obtain ⟨hS, hnd, hkd⟩ := fnScope_ok h1
  refine fnP_ok F hS (fun vs H Q E ⟨a, ns, e, _⟩ => by rw [e]; rfl) fun cdv A outer s H vs Q E hr sp => ?_
  obtain ⟨a, ns, rfl, hq, hl, q⟩ := sp
  unfold chkScr at h2
  split at h2
  · rename_i s0 ss eb
    obtain ⟨h2, h5⟩ := and_t h2
    obtain ⟨h2, h4⟩ := and_t h2
    have hN3 : N.length = 3 := of_decide_eq_true h2
    have co : CO (GS bl) n (cxOf CX0 P w K mg base N x (defScope st) fa cdv A outer s H E).nox ⟨N, (defScope st).names, none⟩ := ⟨rfl, hnd, rfl, hkd, rfl, rfl, hr, fun _ _ => rfl, hbl, fun f fd x hf => nomatch (show (none : Option Fd) = some fd from hf)⟩
    rw [eb]
    obtain ⟨t, elt, tg, e, kk, p1, p2, p3, sc, pp, pos, rfl, k1, k2, k3, k4, k5, k6⟩ := kScr_inv h4
    · clear h4
      have hrest := chkSs_ok co irS (of_decide_eq_true h5) [] trivial
      cases t with
      | Name y py =>
        obtain ⟨hNy, hloc⟩ := and_t (show (decide (N[1]? = some y) && locB ⟨N, (defScope st).names, none⟩ y) = true from k1)
        have hyl : (defScope st).names.lookup y = some .local := by
          have hs : (decide ((defScope st).names.lookup y = some .local) && decide (py.line = pp.line) && !(sc.names.any fun (n, k) => n == y && (k == .local || k == .cell))) = true := k2
          exact of_decide_eq_true (and_t (and_t hs).1).1
        have hsw := swap_bool co (x := y) (p := py) (pos := pp) (elt := elt) (gens := [⟨tg, .Subscript e (.Slice none (some (.Constant (.int 63) kk p1)) none p2) p3, [], 0⟩]) (sc := sc) pos.line
        rw [k2] at hsw
        have q1 := ps_setLc (py := py) (spos := pos) (pos := pp) co.calm hnd (of_decide_eq_true hNy) hyl hsw (pi_scr (name_ok co k3)) (blk_ok co k4) (fun s H C cl fp => tg_ok (blk_co co k4 s H C cl fp) (.n 2) tg k5)
          (fun s H C cl fp => PTsw pts_nil fun σ H Q q => tt_yes (cf := callF (GS bl).P n) (Γ := setT (.n 2) (unk [.u, .u, .u] [2])) (own := []) q) (fun s H C cl fp => (chk_ok (.b1 .abs (.v 2)) (blk_co co k4 s H C cl fp) k6 : PE _ _ _)) (fun x => rfl)
        rw [ownOf_snd] at q1
        refine ⟨_, pss_cons q1 hrest, ?_⟩
        refine ⟨a, ns.map V.int, by unfold L2.start; rfl, hq, fun p hp => ?_⟩
        rw [cut63 hl]
        obtain ⟨f1, w1⟩ := new_obj (wi00 H) (.lst (ns.map V.int)) hp
        have hst : L2.start N [V.ref a] = [some (.ref a), none, none] := by
          unfold L2.start
          rw [hN3]
          rfl
        rw [hst]
        have sl1 : SL (W00.add p (.lst (ns.map V.int))) (fun _ => []) [.u, .u, .u] [none, none, none] [some (.ref a), none, none] (upd H p (.lst (ns.map V.int))) := by
          refine ⟨fun i => ?_, fun _ => List.nodup_nil, fun i j _ a m => (List.not_mem_nil m).elim, rfl, rfl⟩
          have : ty [.u, .u, .u] i = .u := by
            match i with
            | 0 => rfl
            | 1 => rfl
            | 2 => rfl
            | i + 3 => rfl
          rw [this]
          rfl
        refine lc_turn (own := [2]) (tg := .n 2) (cond := .yes) (elt := .b1 .abs (.v 2)) (cf := callF (GS bl).P n) (xs := ns.map .int) (out := (ns.map absI).map .int) (J := Itl K p) (Q := fun x H1 => gName 1 x [some (.ref a), none, none] H1 (tSs (callF (GS bl).P n) .st [] [.u, .o, .u] irS [] { nx := fun _ H' => Q .non H', rt := Q })) (fun i m => m) w1 sl1 (itl_ok (vs := ns.map V.int) fun W2 τ2 H2 w2 f2 => ⟨w2.sub _ _ (f2.B _ _ upd_same), rpa_ints _ _⟩) (by rw [List.length_map, sizeLine_eq]; omega) (compL_abs _ none none none ns) fun p' vs W' H' f' w' g1 g2 g3 g4 g5 g6 => ?_
        have f02 := f1.trans f'
        have hp' : H p' = none := f1.free g4
        refine ⟨W00, H, W00.B, [none, some (.list ((ns.map absI).map .int)), none], none, .rt .none (some (tape0 ns)), ⟨W', _, f02, f02.B, w', ((sl1.mono f').forgetB 1).reslot (t := .o) (g := some (.list ((ns.map absI).map .int))) (F := [p']) (by decide) ⟨p', vs, _, rfl, rfl, rfl, g1, g2, g3, g5, g6⟩ (by simp) (fun j _ b hb => by simp), fun j b m => ?_⟩, ?_, fun v H1 ⟨W1, f3, w3, r3⟩ => q v W1 H1 f3 w3 r3⟩
        · have m : b ∈ (if j = 1 then [p'] else []) := m
          split at m
          · cases List.mem_singleton.mp m
            exact hp'
          · cases m
        · by_cases hz : ns.length = 0
          · have : ns = [] := List.length_eq_zero_iff.mp hz
            subst this
            rfl
          · have hne : ((ns.map absI).map PyData.int).length ≠ 0 := by simpa using hz
            obtain ⟨is, hi⟩ : ∃ is, intsOf ((ns.map absI).map PyData.int) = some is := by
              have : ∀ l : List Int, intsOf (l.map .int) = some l := fun l => by
                induction l with
                | nil => rfl
                | cons a r ih => rw [List.map_cons, intsOf, ih]; rfl
              exact ⟨_, this _⟩
            have hb : (PyData.eqv (.int (((ns.map absI).map PyData.int).length : Nat)) (.int 0)) = false := by
              rw [eqv_int]
              simpa using hz
            have e1 : evalE (callF (GS bl).P n) (.cmp .eq (.b1 .len (.v 1)) (.c (.int 0))) [none, some (.list ((ns.map absI).map .int)), none] none = some (.bool false, none) := by
              simp only [evalE, rd, List.getD_cons_succ, List.getD_cons_zero, Option.map_some, Option.bind_some, opB1, bLen, opCmp, cEq]
              rw [if_pos (by simp [shallow, PyData.depth]), hb]
              rfl
            simp only [irS, execSs, execS, tst, e1, Option.bind_some, truth, Option.map_some]
            rw [if_neg Bool.false_ne_true]
            simp only [Option.bind_some, rd, List.getD_cons_succ, List.getD_cons_zero, listOf, hi, Option.map_some]
            unfold tape0 cellsOf
            rw [if_neg hz]
            rfl
      | _ => exact nomatch (show false = true from k2)
  · cases h2
end
end Ev
set_option Elab.async false
set_option linter.all false
set_option maxRecDepth 100000
set_option autoImplicit false
/-! Ev21: all defs of a text; the law's def; what the head asks. -/
namespace Ev
open PySem PySem.Spec PyProof.Rows L2
section
variable {P : Program} {w : World} {K : PySem.W.Frag} {mg : Str → Option Value} {base : Heap} {G : PG0}
def DefOk (P : Program) (w : World) (K : PySem.W.Frag) (mg : Str → Option Value) (base : Heap) (G : PG0) (f : Nat) (fd : Fd) (x : Str) : Prop :=
  ∃ fa fdt ps, mg x = some (.ref fa) ∧ PySem.W.keepIn K (.ref fa) = true ∧ Binds K fdt ps [] ∧ ps.length = fd.pty.length ∧ ∀ n, Calls P w K mg base G n → FnOk P w K mg base CX0 (n + 1) fa fdt ps (spC (callF G.P (n + 1)) fd.pty fd.res f)
theorem calls_all (hd : ∀ f fd x, G.P[f]? = some fd → G.fn[f]? = some x → DefOk P w K mg base G f fd x) : ∀ n, Calls P w K mg base G n
  | 0 => fun f fd x h1 h2 => by
    obtain ⟨fa, fdt, ps, a1, a2, a3, a4, _⟩ := hd f fd x h1 h2
    refine ⟨fa, fdt, ps, ⟨fun vs H Q E s => s.1.trans a4.symm, fun A outer s H args us vs Q E hr e0 hb hv sp => ?_⟩, a1, a2, a3⟩
    obtain ⟨_, W, τ, ds, d, τ', _, _, e, _⟩ := sp
    cases (show (none : R) = some (d, τ') from e)
  | n + 1 => fun f fd x h1 h2 => by
    obtain ⟨fa, fdt, ps, a1, a2, a3, _, a5⟩ := hd f fd x h1 h2
    exact ⟨fa, fdt, ps, a5 n (calls_all hd n), a1, a2, a3⟩
def BindsOk (x : Str) (st : Stmt) (ps : List Str) : Prop := ∀ (kV doc pm : Value) (an : Option Addr) (cdv ct : Value) (us : List Value), us.length = ps.length → bindArgs (PySem.W.fnOf x x (defArgs st) (defBody st) (defScope st) .none kV doc pm an cdv ct) ⟨us, []⟩ = pure (ps.zip us)
def toD (x : Str) (st : Stmt) : He.DefD := ⟨(x, none), x, x, defArgs st, defBody st, defScope st, [], []⟩
theorem def_at {fa : List He.Fa} {fn : List He.DefD} (c : He.SaysD fa fn K) (i : Nat) {x : Str} {st : Stmt} (h : fn[i]? = some (toD x st)) : ∃ fdt, FnP K x st (He.ga K x) fdt := by
  obtain ⟨fdt, F⟩ := c.def_ i h
  exact ⟨fdt, F⟩
theorem defOk_mk {fa : List He.Fa} {fn : List He.DefD} {h : Heap} (c : He.SaysD fa fn K) (KX : K.In h) (hG : h.Ns mainGlobals mg) (hbl : ∀ x ∈ G.bl, mg x = none) {f i j : Nat} {x : Str} {st : Stmt} {N ps : List Str} {pty : List Ty} {res : Ty} {b : List IS} {fd : Fd} (hfn : fn[i]? = some (toD x st)) (hfa : fa[j]? = some (.glo x))
    (hP : G.P[f]? = some fd) (hfd : fd = .body pty res N.length b) (hb : BindsOk x st ps) (hc : chkD G N ps pty res b st = true) : DefOk P w K mg base G f fd x := by
  obtain ⟨fdt, F⟩ := def_at c i hfn
  subst hfd
  have hps : pty.length = ps.length := by
    unfold chkD at hc
    obtain ⟨hc, _⟩ := and_t hc
    obtain ⟨hc, _⟩ := and_t hc
    exact of_decide_eq_true (and_t hc).2
  exact ⟨_, fdt, ps, He.glo_ok KX hG (c.fact j hfa), F.kp, F.bindsN hb, hps.symm, fun n hcalls => body_ok hbl hcalls F hP hc⟩
/-! ### the law's def -/
def spL (K : PySem.W.Frag) : Sp := fun vs H Q _ => ∃ (a : Addr) (ns : List Int), vs = [.ref a] ∧ SqL K H a (ns.map V.int) ∧ ns.length ≤ 63 ∧ ∀ H', Q (.bl true) H'
def GaL (N : List Str) : List Ty := (List.replicate N.length .u).set 1 .st
def gaL (N : List Str) : En := (List.replicate N.length none).set 1 (some .none)
def kLaw (S : SC) (y : Str) (s : Stmt) : Bool := match s with
  | .Assign [t] (.Call (.Name x p1) [e] [] p2) pos => chkTg S (.n 1) t && decide (x = y) && glB S x && noMagic x && nameB S 0 e
  | _ => false
theorem kLaw_inv {S : SC} {y : Str} {s : Stmt} (h : kLaw S y s = true) : ∃ t p1 e p2 pos, s = .Assign [t] (.Call (.Name y p1) [e] [] p2) pos ∧ chkTg S (.n 1) t = true ∧ glB S y = true ∧ noMagic y = true ∧ nameB S 0 e = true := by
  unfold kLaw at h
  split at h
  · obtain ⟨h, h5⟩ := and_t h
    obtain ⟨h, h4⟩ := and_t h
    obtain ⟨h, h3⟩ := and_t h
    obtain ⟨h1, h2⟩ := and_t h
    cases of_decide_eq_true h2
    exact ⟨_, _, _, _, _, rfl, h1, h3, h4, h5⟩
  · cases h
def chkLaw (G : PG0) (N : List Str) (y : Str) (b : List IS) (st : Stmt) : Bool := match defBody st with
  | s :: ss => decide (2 ≤ N.length) && kLaw ⟨N, (defScope st).names, none⟩ y s && okEnd .p (chkSs G ⟨N, (defScope st).names, none⟩ .p [] (GaL N) b ss)
  | [] => false
theorem law_ok {n : Nat} (hbl : ∀ x ∈ G.bl, mg x = none) (hc : Calls P w K mg base G n) {x y p : Str} {st : Stmt} {fa faS : Addr} {fdt fdS : FuncData} {N : List Str} {b : List IS} {q : Str} (F : FnP K x st fa fdt) (hS : FnOk P w K mg base CX0 n faS fdS [q] (spS K)) (mS : mg y = some (.ref faS)) (kS : PySem.W.keepIn K (.ref faS) = true) (bS : Binds K fdS [q] [])
    (h1 : chkSc N [p] st = true) (h2 : chkLaw G N y b st = true) (run : ∀ ns : List Int, ns.length ≤ 63 → ∃ τ', execSs (callF G.P n) b (gaL N) (some (tape0 ns)) = some (.rt (.bool true) τ')) :
    FnOk P w K mg base CX0 (n + 1) fa fdt [p] (spL K) := by
  obtain ⟨hSc, hnd, hkd⟩ := fnScope_ok h1
  refine fnP_ok F hSc (fun vs H Q E ⟨a, ns, e, _⟩ => by rw [e]; rfl) fun cdv A outer s H vs Q E hr sp => ?_
  obtain ⟨a, ns, rfl, hq, hl, qq⟩ := sp
  unfold chkLaw at h2
  split at h2
  · rename_i s0 ss eb
    obtain ⟨h2, h5⟩ := and_t h2
    obtain ⟨h2, h4⟩ := and_t h2
    have hN2 : 2 ≤ N.length := of_decide_eq_true h2
    have co : CO G n (cxOf CX0 P w K mg base N x (defScope st) fa cdv A outer s H E).nox ⟨N, (defScope st).names, none⟩ := ⟨rfl, hnd, rfl, hkd, rfl, rfl, hr, fun _ _ => rfl, hbl, hc⟩
    rw [eb]
    obtain ⟨t, p1, e, p2, pos, rfl, k1, k2, k3, k4⟩ := kLaw_inv h4
    have hu : unstar t = true := by
      cases t <;> first | rfl | exact nomatch (show false = true from k1)
    have hue : unstar e = true := by
      cases e <;> first | rfl | exact nomatch (show false = true from k4)
    have hw : noStB ⟨N, (defScope st).names, none⟩ t (.Call (.Name y p1) [e] [] p2) = true := by
      cases t <;> first | rfl | exact nomatch (show false = true from k1)
    have hcall := pe_call (dvs := []) (p := p1) (pos := p2) hS hr (co.gl k2) mS kS bS .nil pass0 (pa_cons (name_ok co k4) pa_nil (star_cons hue [] _)) (magic_of k3).1 (star_cons hue [] _) rfl
    have q1 := asg_plain (pos := pos) co hu (noComp_sole _ _ rfl) hw hcall (tgn_name co k1)
    obtain ⟨τ', er⟩ := run ns hl
    have key : ∀ Γ1, PSs (cxOf CX0 P w K mg base N x (defScope st) fa cdv A outer s H E).nox ss (tSs (callF G.P n) .p [] (GaL N) b Γ1) → ∃ t_1, PSs (cxOf CX0 P w K mg base N x (defScope st) fa cdv A outer s H E).nox (.Assign [t] (.Call (.Name y p1) [e] [] p2) pos :: ss) t_1 ∧ t_1 { nx := fun _ H' => Q .non H', rt := Q } (L2.start N [.ref a]) H := fun Γ1 hss => by
      refine ⟨_, pss_cons q1 hss, .ref a, by unfold L2.start; rfl, a, ns, rfl, hq, hl, fun v W' H' f' w' r' => ?_⟩
      obtain ⟨_, a', c', rfl, hst⟩ := r'
      refine ⟨W00, H, W00.B, gaL N, some (tape0 ns), _, ⟨W', _, f', f'.B, w', ((?_ : SL W' (off (fun _ => []) 1) ((List.replicate N.length Ty.u).set 1 .u) (List.replicate N.length none) (L2.start N [.ref a]) H').reslot (t := .st) (g := some .none) (F := []) (by rw [List.length_replicate]; omega) ⟨rfl, rfl, a', c', rfl, hst⟩ List.nodup_nil (fun j _ b hb => (List.not_mem_nil hb).elim)), fun j b m => ?_⟩, er, fun v H1 ⟨W1, f3, w3, r3⟩ => ?_⟩
      · have lst : (L2.start N [V.ref a]).length = N.length := by
          unfold L2.start
          simp only [List.length_append, List.length_map, List.length_replicate, List.length_cons, List.length_nil]
          omega
        refine ⟨fun i => ?_, fun i => ?_, fun i j _ b m => ?_, ?_, ?_⟩
        · have e0 : ty ((List.replicate N.length Ty.u).set 1 .u) i = .u := by
            unfold ty
            rw [List.getD_eq_getElem?_getD, List.getElem?_set]
            split
            · split <;> rfl
            · rw [List.getElem?_replicate]; split <;> rfl
          rw [e0]
          show off (fun _ => []) 1 i = []
          unfold off
          split <;> rfl
        · unfold off; split <;> exact List.nodup_nil
        · unfold off at m
          split at m <;> exact (List.not_mem_nil m).elim
        · rw [lst, List.length_replicate]
        · rw [lst, List.length_set, List.length_replicate]
      · have m : b ∈ (if j = 1 then [] else []) := m
        split at m <;> exact (List.not_mem_nil m).elim
      · cases (show Rp W1.B v (.bool true) from r3)
        exact qq H1
    cases hr' : chkSs G ⟨N, (defScope st).names, none⟩ .p [] (GaL N) b ss with
    | none => rw [hr'] at h5; cases h5
    | some rr =>
      cases rr with
      | none => exact key [] (chkSs_ok co b hr' [] trivial)
      | some Γ' => exact key Γ' (chkSs_ok co b hr' Γ' (weak_refl Γ'))
  · cases h2
end
end Ev
set_option Elab.async false
set_option linter.all false
set_option maxRecDepth 100000
set_option autoImplicit false
/-! Ev30: plain laws of the small language's runs. -/
namespace Ev
open PySem
/-- the head first -/
theorem bind_head {α β : Type} {x x' : Option α} {f : α → Option β} (h : x = x') : Option.bind x f = Option.bind x' f := by rw [h]
theorem map_head {α β : Type} {x x' : Option α} {f : α → β} (h : x = x') : Option.map f x = Option.map f x' := by rw [h]
theorem callF_body {P : Prg} {f : Nat} {p : List Ty} {r : Ty} {nv : Nat} {b : List IS} (h : P[f]? = some (.body p r nv b)) (n : Nat) (ds : List D) (τ : Tape) : callF P (n + 1) f ds τ = runB (callF P n) nv b ds τ := by
  show (match P[f]? with | some (.body _ _ nv b) => runB (callF P n) nv b ds τ | some (.prim _ _ g) => g ds τ | none => none : R) = _
  rw [h]
/-- a whole number from zero on -/
def nI (x : Nat) : D := .int (x : Int)
theorem nI_eq (i j : Nat) : PyData.eqv (nI i) (nI j) = decide (i = j) := by
  simp only [nI, PyData.eqv]
  by_cases h : i = j
  · subst h; simp
  · simp [h]; omega
theorem add_n (a b : Nat) : opBin .add (nI a) (nI b) = some (nI (a + b)) := by
  simp only [opBin, opAdd, nI]; push_cast; rfl
theorem mul_n (a b : Nat) (h : b ≤ 1000) : opBin .mul (nI a) (nI b) = some (nI (a * b)) := by
  simp only [opBin, opMul, opMulI, nI]
  rw [if_pos (.inr (by omega))]
  push_cast
  rfl
theorem eq_n (a b : Nat) : opCmp .eq (nI a) (nI b) = some (decide (a = b)) := by
  simp only [opCmp, cEq]
  rw [if_pos (by simp [shallow, nI, PyData.depth]), nI_eq]
theorem ne_n (a b : Nat) : opCmp .ne (nI a) (nI b) = some (!decide (a = b)) := by
  simp only [opCmp, cEq]
  rw [if_pos (by simp [shallow, nI, PyData.depth]), nI_eq]
  rfl
theorem eq_s (a b : Str) : opCmp .eq (.str a) (.str b) = some (a == b) := by
  simp only [opCmp, cEq]
  rw [if_pos (by simp [shallow, PyData.depth])]
  simp only [PyData.eqv]
theorem range_n (n : Nat) (h : n ≤ 1000000) : items .r1 [nI n] = some ((List.range n).map nI) := by
  simp only [items, itR1, nI]
  rw [if_pos (by omega)]
  unfold rangeD
  simp only [Int.zero_add, Int.toNat_natCast]
  rfl
theorem lenOk_n (n : Nat) (h : n ≤ 1000000) : lenOk .r1 ((List.range n).map nI) = true := by
  unfold lenOk
  simp only [List.length_map, List.length_range]
  have : sizeLine = 16777216 := rfl
  rw [this]
  exact decide_eq_true (by omega)
/-! ### comprehensions -/
theorem compL_pure {α : Type} {f : D → Tape → Option (Option D × Tape)} {enc : α → D} {g : α → Option D} {τ : Tape} : ∀ {xs : List α}, (∀ x ∈ xs, f (enc x) τ = some (g x, τ)) → compL f (xs.map enc) τ = some (xs.filterMap g, τ)
  | [], _ => rfl
  | x :: xs, h => by
    rw [List.map_cons, compL, h x List.mem_cons_self, Option.bind_some]
    show (compL f (xs.map enc) τ).map _ = _
    rw [compL_pure fun y hy => h y (List.mem_cons_of_mem _ hy), List.filterMap_cons]
    cases g x <;> rfl
theorem compLs_pure {α : Type} {f : D → Tape → Option (List D × Tape)} {enc : α → D} {g : α → List D} {τ : Tape} : ∀ {xs : List α}, (∀ x ∈ xs, f (enc x) τ = some (g x, τ)) → compLs f (xs.map enc) τ = some (xs.flatMap g, τ)
  | [], _ => rfl
  | x :: xs, h => by
    rw [List.map_cons, compLs, h x List.mem_cons_self, Option.bind_some]
    show (compLs f (xs.map enc) τ).map _ = _
    rw [compLs_pure fun y hy => h y (List.mem_cons_of_mem _ hy), List.flatMap_cons]
    rfl
theorem filterMap_if {α β : Type} (c : α → Bool) (y : α → β) : ∀ xs : List α, xs.filterMap (fun x => if c x = true then some (y x) else none) = (xs.filter c).map y
  | [] => rfl
  | x :: r => by
    rw [List.filterMap_cons, List.filter_cons]
    by_cases q : c x = true
    · rw [if_pos q, if_pos q, List.map_cons, ← filterMap_if c y r]
    · rw [if_neg q, if_neg q, ← filterMap_if c y r]
/-- [elt for x in args if cond], no side effects -/
theorem ev_c1 {cf : CF} {own : List Nat} {tg : Tg} {k : IK} {args : List IE} {cond elt : IE} {γ : En} {τ : Tape} {α : Type} (xs : List α) (enc : α → D) (c : α → Bool) (y : α → D) {ds : List D}
    (h1 : evalEs cf args γ τ = some (ds, τ)) (h2 : items k ds = some (xs.map enc)) (h3 : lenOk k (xs.map enc) = true)
    (h4 : ∀ x ∈ xs, ∃ g, bindT tg (enc x) γ = some g ∧ tst (evalE cf cond g τ) = some (c x, τ) ∧ (c x = true → evalE cf elt g τ = some (y x, τ))) :
    evalE cf (.comp own tg k args cond elt) γ τ = some (.list ((xs.filter c).map y), τ) := by
  simp only [evalE, h1, Option.bind_some, h2, h3, if_true]
  rw [compL_pure (enc := enc) (g := fun x => if c x = true then some (y x) else none)]
  · simp only [Option.map_some]
    congr 2
    rw [filterMap_if]
  · intro x hx
    obtain ⟨g, e1, e2, e3⟩ := h4 x hx
    simp only [e1, Option.bind_some, e2]
    by_cases q : c x = true
    · rw [if_pos q, if_pos q, e3 q]; rfl
    · rw [if_neg q, if_neg q]
/-! ### loops -/
/-- a loop that goes out at the first hit and changes nothing before -/
theorem forL_find {α : Type} {f : D → En → Tape → Option Out} {ks : List Nat} {enc : α → D} {p : α → Bool} {r : α → D} {γ : En} {τ : Tape} : ∀ {xs : List α},
    (∀ x ∈ xs, if p x = true then f (enc x) γ τ = some (.rt (r x) τ) else ∃ γ', f (enc x) γ τ = some (.nx γ' τ) ∧ kill γ' ks = γ) →
    forL f ks (xs.map enc) γ τ = some (match xs.find? p with | some x => .rt (r x) τ | none => .nx γ τ)
  | [], _ => rfl
  | x :: xs, h => by
    have hx := h x List.mem_cons_self
    rw [List.map_cons, forL, List.find?_cons]
    by_cases q : p x = true
    · rw [if_pos q] at hx
      rw [hx, q]
      rfl
    · rw [if_neg q] at hx
      obtain ⟨γ', e1, e2⟩ := hx
      rw [e1, Option.bind_some]
      rw [Bool.not_eq_true] at q
      rw [q]
      show forL f ks (xs.map enc) (kill γ' ks) τ = _
      rw [e2]
      exact forL_find fun y hy => h y (List.mem_cons_of_mem _ hy)
/-- a loop that folds -/
theorem forL_fold {α β : Type} {f : D → En → Tape → Option Out} {ks : List Nat} {enc : α → D} {env : β → En} {tp : β → Tape} {step : β → α → β} : ∀ {xs : List α} {b : β} (I : β → Prop), I b →
    (∀ b x, x ∈ xs → I b → I (step b x) ∧ ∃ γ', f (enc x) (env b) (tp b) = some (.nx γ' (tp (step b x))) ∧ kill γ' ks = env (step b x)) →
    forL f ks (xs.map enc) (env b) (tp b) = some (.nx (env (xs.foldl step b)) (tp (xs.foldl step b))) ∧ I (xs.foldl step b)
  | [], b, I, hb, _ => ⟨rfl, hb⟩
  | x :: xs, b, I, hb, h => by
    obtain ⟨hi, γ', e1, e2⟩ := h b x List.mem_cons_self hb
    obtain ⟨q1, q2⟩ := forL_fold (xs := xs) (b := step b x) I hi fun b y hy hb => h b y (List.mem_cons_of_mem _ hy) hb
    refine ⟨?_, q2⟩
    rw [List.map_cons, forL, e1, Option.bind_some]
    show forL f ks (xs.map enc) (kill γ' ks) (tp (step b x)) = _
    rw [e2, q1]
    rfl
/-- .. whose steps are told by a relation alone -/
theorem forL_rel {α : Type} {f : D → En → Tape → Option Out} {ks : List Nat} {enc : α → D} (I : List α → En → Tape → Prop) : ∀ {xs pre : List α} {γ : En} {τ : Tape}, I pre γ τ →
    (∀ pre x γ τ, x ∈ xs → I pre γ τ → ∃ γ' τ', f (enc x) γ τ = some (.nx γ' τ') ∧ I (pre ++ [x]) (kill γ' ks) τ') →
    ∃ γ' τ', forL f ks (xs.map enc) γ τ = some (.nx γ' τ') ∧ I (pre ++ xs) γ' τ'
  | [], pre, γ, τ, hb, _ => ⟨γ, τ, rfl, by rw [List.append_nil]; exact hb⟩
  | x :: xs, pre, γ, τ, hb, h => by
    obtain ⟨γ1, τ1, e1, h1⟩ := h pre x γ τ List.mem_cons_self hb
    obtain ⟨γ2, τ2, e2, h2⟩ := forL_rel I (xs := xs) (pre := pre ++ [x]) h1 fun p y g t hy hi => h p y g t (List.mem_cons_of_mem _ hy) hi
    refine ⟨γ2, τ2, ?_, by rw [List.append_assoc] at h2; exact h2⟩
    rw [List.map_cons, forL, e1, Option.bind_some]
    exact e2
/-! ### equality -/
mutual
theorem eqv_refl : ∀ d : D, (∀ kvs, d ≠ .dict kvs) → PyData.canLay0 d = true → PyData.eqv d d = true
  | .none, _, _ => by simp only [PyData.eqv]
  | .bool b, _, _ => by simp [PyData.eqv]
  | .int i, _, _ => by simp [PyData.eqv]
  | .str x, _, _ => by simp [PyData.eqv]
  | .list xs, _, h => by
    simp only [PyData.eqv]
    exact eqvAll_refl xs (by simpa only [PyData.canLay0] using h)
  | .tuple xs, _, h => by
    simp only [PyData.eqv]
    exact eqvAll_refl xs (by simpa only [PyData.canLay0] using h)
  | .dict kvs, h, _ => absurd rfl (h kvs)
theorem eqvAll_refl : ∀ ds : List D, PyData.canLayAll0 ds = true → PyData.eqvAll ds ds = true
  | [], _ => by simp only [PyData.eqvAll]
  | d :: ds, h => by
    simp only [PyData.canLayAll0, Bool.and_eq_true] at h
    simp only [PyData.eqvAll, Bool.and_eq_true]
    refine ⟨eqv_refl d (fun kvs e => ?_) h.1, eqvAll_refl ds h.2⟩
    rw [e] at h
    have := h.1
    simp [PyData.canLay0] at this
end
end Ev
set_option Elab.async false
set_option linter.all false
set_option maxRecDepth 100000
set_option autoImplicit false
/-! Ev31: runs, the head first (nothing behind a name is looked at before its turn). -/
namespace Ev
open PySem
def lft (r : Option D) (τ : Tape) : R := r.map fun d => (d, τ)
theorem lft_some (d : D) (τ : Tape) : lft (some d) τ = some (d, τ) := rfl
def un1 (r : R) (f : D → Option D) : R := r.bind fun p => lft (f p.1) p.2
theorem un1_some (x : D) (τ : Tape) (f : D → Option D) : un1 (some (x, τ)) f = lft (f x) τ := rfl
def bi2 (r : R) (k : Tape → R) (f : D → D → Option D) : R := r.bind fun p => un1 (k p.2) (f p.1)
theorem bi2_some (x : D) (τ : Tape) (k : Tape → R) (f : D → D → Option D) : bi2 (some (x, τ)) k f = un1 (k τ) (f x) := rfl
def cB (o : COp) (x y : D) : Option D := (opCmp o x y).map .bool
def tB1 (r : R) : Option (Bool × Tape) := tst r
theorem tB1_some (b : Bool) (τ : Tape) : tB1 (some (.bool b, τ)) = some (b, τ) := rfl
def pk {α : Type} (r : Option (Bool × Tape)) (f g : Tape → Option α) : Option α := r.bind fun p => if p.1 then f p.2 else g p.2
theorem pk_t {α : Type} (τ : Tape) (f g : Tape → Option α) : pk (some (true, τ)) f g = f τ := rfl
theorem pk_f {α : Type} (τ : Tape) (f g : Tape → Option α) : pk (some (false, τ)) f g = g τ := rfl
def anK (r : R) (k : Tape → R) : R := r.bind fun p => (truth p.1).bind fun b => if b then k p.2 else some p
theorem anK_t (τ : Tape) (k : Tape → R) : anK (some (.bool true, τ)) k = k τ := rfl
theorem anK_f (τ : Tape) (k : Tape → R) : anK (some (.bool false, τ)) k = some (.bool false, τ) := rfl
def orK (r : R) (k : Tape → R) : R := r.bind fun p => (truth p.1).bind fun b => if b then some p else k p.2
theorem orK_t (τ : Tape) (k : Tape → R) : orK (some (.bool true, τ)) k = some (.bool true, τ) := rfl
theorem orK_f (τ : Tape) (k : Tape → R) : orK (some (.bool false, τ)) k = k τ := rfl
def notK (r : Option (Bool × Tape)) : R := r.map fun p => (.bool (!p.1), p.2)
theorem notK_some (b : Bool) (τ : Tape) : notK (some (b, τ)) = some (.bool (!b), τ) := rfl
def csK (r : R) (k : Tape → Option (List D × Tape)) : Option (List D × Tape) := r.bind fun p => (k p.2).map fun q => (p.1 :: q.1, q.2)
def csM (x : D) (r : Option (List D × Tape)) : Option (List D × Tape) := r.map fun q => (x :: q.1, q.2)
theorem csK_some (x : D) (τ : Tape) (k : Tape → Option (List D × Tape)) : csK (some (x, τ)) k = csM x (k τ) := rfl
theorem csM_some (x : D) (xs : List D) (τ : Tape) : csM x (some (xs, τ)) = some (x :: xs, τ) := rfl
def mk1 (r : Option (List D × Tape)) (f : List D → D) : R := r.map fun p => (f p.1, p.2)
theorem mk1_some (xs : List D) (τ : Tape) (f : List D → D) : mk1 (some (xs, τ)) f = some (f xs, τ) := rfl
def clK (r : Option (List D × Tape)) (f : List D → Tape → R) : R := r.bind fun p => f p.1 p.2
theorem clK_some (xs : List D) (τ : Tape) (f : List D → Tape → R) : clK (some (xs, τ)) f = f xs τ := rfl
section
variable (cf : CF) (γ : En) (τ : Tape)
theorem e_v (i : Nat) : evalE cf (.v i) γ τ = lft (rd γ i) τ := by simp only [evalE]; rfl
theorem e_c (d : D) : evalE cf (.c d) γ τ = some (d, τ) := by simp only [evalE]
theorem e_yes : evalE cf .yes γ τ = some (.bool true, τ) := by simp only [evalE]
theorem e_tup (es : List IE) : evalE cf (.tup es) γ τ = mk1 (evalEs cf es γ τ) .tuple := by simp only [evalE]; rfl
theorem e_lst (es : List IE) : evalE cf (.lst es) γ τ = mk1 (evalEs cf es γ τ) .list := by simp only [evalE]; rfl
theorem e_bin (o : BOp) (a b : IE) : evalE cf (.bin o a b) γ τ = bi2 (evalE cf a γ τ) (evalE cf b γ) (opBin o) := by simp only [evalE]; rfl
theorem e_cmp (o : COp) (a b : IE) : evalE cf (.cmp o a b) γ τ = bi2 (evalE cf a γ τ) (evalE cf b γ) (cB o) := by
  simp only [evalE, bi2, un1, cB, lft, Option.map_map]
  rfl
theorem e_isN (a : IE) : evalE cf (.isN a) γ τ = un1 (evalE cf a γ τ) (fun d => some (.bool (isNoneD d))) := by
  simp only [evalE, un1, lft]
  cases evalE cf a γ τ <;> rfl
theorem e_notN (a : IE) : evalE cf (.notN a) γ τ = un1 (evalE cf a γ τ) (fun d => some (.bool (!isNoneD d))) := by
  simp only [evalE, un1, lft]
  cases evalE cf a γ τ <;> rfl
theorem e_and (a b : IE) : evalE cf (.and a b) γ τ = anK (evalE cf a γ τ) (evalE cf b γ) := by simp only [evalE]; rfl
theorem e_or (a b : IE) : evalE cf (.or a b) γ τ = orK (evalE cf a γ τ) (evalE cf b γ) := by simp only [evalE]; rfl
theorem e_not (a : IE) : evalE cf (.not a) γ τ = notK (tB1 (evalE cf a γ τ)) := by simp only [evalE]; rfl
theorem e_ite (c a b : IE) : evalE cf (.ite c a b) γ τ = pk (tB1 (evalE cf c γ τ)) (evalE cf a γ) (evalE cf b γ) := by simp only [evalE]; rfl
theorem e_ix (a b : IE) : evalE cf (.ix a b) γ τ = bi2 (evalE cf a γ τ) (evalE cf b γ) opIx := by simp only [evalE]; rfl
theorem e_slT (a b : IE) : evalE cf (.slT a b) γ τ = bi2 (evalE cf a γ τ) (evalE cf b γ) (fun x y => (intOf y).bind fun i => opSl x none (some i)) := by
  simp only [evalE, bi2, un1, lft]
  cases evalE cf a γ τ with
  | none => rfl
  | some p =>
    simp only [Option.bind_some]
    cases evalE cf b γ p.2 with
    | none => rfl
    | some q =>
      simp only [Option.bind_some]
      cases intOf q.1 <;> rfl
theorem e_b1 (f : B1) (a : IE) : evalE cf (.b1 f a) γ τ = un1 (evalE cf a γ τ) (opB1 f) := by simp only [evalE]; rfl
theorem e_b2 (f : B2) (a b : IE) : evalE cf (.b2 f a b) γ τ = bi2 (evalE cf a γ τ) (evalE cf b γ) (opB2 f) := by simp only [evalE]; rfl
theorem e_call (f : Nat) (es : List IE) : evalE cf (.call f es) γ τ = clK (evalEs cf es γ τ) (cf f) := by simp only [evalE]; rfl
theorem e_nil : evalEs cf [] γ τ = some ([], τ) := by simp only [evalEs]
theorem e_cons (e : IE) (es : List IE) : evalEs cf (e :: es) γ τ = csK (evalE cf e γ τ) (evalEs cf es γ) := by simp only [evalEs]; rfl
/-! statements -/
def thS (o : Option Out) (k : En → Tape → Option Out) : Option Out := o.bind fun o => match o with
  | .nx g t => k g t
  | o => some o
end
theorem thS_nx (γ : En) (τ : Tape) (k : En → Tape → Option Out) : thS (some (.nx γ τ)) k = k γ τ := rfl
theorem thS_rt (d : D) (τ : Tape) (k : En → Tape → Option Out) : thS (some (.rt d τ)) k = some (.rt d τ) := rfl
def stG (r : R) (f : D → Option En) : Option Out := r.bind fun p => (f p.1).map fun g => .nx g p.2
def nxT (r : Option En) (τ : Tape) : Option Out := r.map fun g => .nx g τ
theorem stG_some (d : D) (τ : Tape) (f : D → Option En) : stG (some (d, τ)) f = nxT (f d) τ := rfl
theorem nxT_some (γ : En) (τ : Tape) : nxT (some γ) τ = some (.nx γ τ) := rfl
def rtG (r : R) : Option Out := r.map fun p => .rt p.1 p.2
theorem rtG_some (d : D) (τ : Tape) : rtG (some (d, τ)) = some (.rt d τ) := rfl
def bG (tg : Tg) (γ : En) (d : D) : Option En := bindT tg d γ
theorem bG_n (i : Nat) (γ : En) (d : D) : bG (.n i) γ d = some (γ.set i (some d)) := by simp only [bG, bindT]
theorem bG_t (ts : List Tg) (γ : En) (xs : List D) : bG (.t ts) γ (.tuple xs) = bindTs ts xs γ := by simp only [bG, bindT]
theorem bG_l (ts : List Tg) (γ : En) (xs : List D) : bG (.l ts) γ (.list xs) = bindTs ts xs γ := by simp only [bG, bindT]
def bsG (r : Option En) (k : En → Option En) : Option En := r.bind k
theorem bsG_some (γ : En) (k : En → Option En) : bsG (some γ) k = k γ := rfl
theorem bs_nil (γ : En) : bindTs [] [] γ = some γ := by simp only [bindTs]
theorem bs_cons (t : Tg) (ts : List Tg) (x : D) (xs : List D) (γ : En) : bindTs (t :: ts) (x :: xs) γ = bsG (bG t γ x) (bindTs ts xs) := by simp only [bindTs]; rfl
def pr2 (r : R) (k : Tape → R) (f : D → D → En) : Option Out := r.bind fun p => (k p.2).map fun q => .nx (f p.1 q.1) q.2
def pr1 (r : R) (f : D → En) : Option Out := r.map fun q => .nx (f q.1) q.2
theorem pr2_some (d : D) (τ : Tape) (k : Tape → R) (f : D → D → En) : pr2 (some (d, τ)) k f = pr1 (k τ) (f d) := rfl
theorem pr1_some (d : D) (τ : Tape) (f : D → En) : pr1 (some (d, τ)) f = some (.nx (f d) τ) := rfl
section
variable (cf : CF) (γ : En) (τ : Tape)
theorem x_nil : execSs cf [] γ τ = some (.nx γ τ) := by simp only [execSs]
theorem x_cons (s : IS) (ss : List IS) : execSs cf (s :: ss) γ τ = thS (execS cf s γ τ) (execSs cf ss) := by
  simp only [execSs, thS]
  all_goals (cases execS cf s γ τ with
    | none => rfl
    | some o => cases o <;> rfl)
theorem x_set (tg : Tg) (e : IE) : execS cf (.set tg e) γ τ = stG (evalE cf e γ τ) (bG tg γ) := by simp only [execS]; rfl
theorem x_own (i : Nat) (t : Ty) (e : IE) : execS cf (.own i t e) γ τ = pr1 (evalE cf e γ τ) (fun d => γ.set i (some d)) := by simp only [execS]; rfl
theorem x_par (i j : Nat) (a b : IE) : execS cf (.par i j a b) γ τ = pr2 (evalE cf a γ τ) (evalE cf b γ) (fun x y => (γ.set i (some x)).set j (some y)) := by simp only [execS]; rfl
theorem x_ret (e : IE) : execS cf (.ret e) γ τ = rtG (evalE cf e γ τ) := by simp only [execS]; rfl
theorem x_ite (c : IE) (a b : List IS) : execS cf (.ite c a b) γ τ = pk (tB1 (evalE cf c γ τ)) (execSs cf a γ) (execSs cf b γ) := by simp only [execS]; rfl
theorem x_frz (i : Nat) : execS cf (.frz i) γ τ = some (.nx γ τ) := by simp only [execS]
end
def enR (o : Option Out) : R := o.bind fun o => match o with
  | .nx _ t => some (.none, t)
  | .rt d t => some (d, t)
  | _ => none
theorem enR_rt (d : D) (τ : Tape) : enR (some (.rt d τ)) = some (d, τ) := rfl
theorem enR_nx (γ : En) (τ : Tape) : enR (some (.nx γ τ)) = some (.none, τ) := rfl
theorem runB_eq (cf : CF) (nv : Nat) (b : List IS) (ds : List D) (τ : Tape) : runB cf nv b ds τ = enR (execSs cf b (ds.map some ++ List.replicate (nv - ds.length) none) τ) := rfl
theorem cB_eq_n (a b : Nat) : cB .eq (nI a) (nI b) = some (.bool (decide (a = b))) := by rw [cB, eq_n]; rfl
theorem cB_ne_n (a b : Nat) : cB .ne (nI a) (nI b) = some (.bool (!decide (a = b))) := by rw [cB, ne_n]; rfl
theorem cB_eq_s (a b : Str) : cB .eq (.str a) (.str b) = some (.bool (a == b)) := by rw [cB, eq_s]; rfl
theorem e_cmp2 {cf : CF} {γ : En} {τ : Tape} {a b c : IE} {x y z : Nat} (h1 : evalE cf a γ τ = some (nI x, τ)) (h2 : evalE cf b γ τ = some (nI y, τ)) (h3 : evalE cf c γ τ = some (nI z, τ)) :
    evalE cf (.cmp2 .eq .eq a b c) γ τ = some (.bool (decide (x = y) && decide (y = z)), τ) := by
  simp only [evalE, h1, h2, h3, Option.bind_some, eq_n]
  by_cases q : x = y
  · simp [q]
  · simp [q]
end Ev
namespace Ev
open PySem
def anB (p : Bool) (r : R) (τ : Tape) : R := if p then r else some (.bool false, τ)
theorem anK_b (p : Bool) (τ : Tape) (k : Tape → R) : anK (some (.bool p, τ)) k = anB p (k τ) τ := by cases p <;> rfl
theorem anB_some (p q : Bool) (τ : Tape) : anB p (some (.bool q, τ)) τ = some (.bool (p && q), τ) := by cases p <;> rfl
def orB (p : Bool) (r : R) (τ : Tape) : R := if p then some (.bool true, τ) else r
theorem orK_b (p : Bool) (τ : Tape) (k : Tape → R) : orK (some (.bool p, τ)) k = orB p (k τ) τ := by cases p <;> rfl
theorem orB_some (p q : Bool) (τ : Tape) : orB p (some (.bool q, τ)) τ = some (.bool (p || q), τ) := by cases p <;> rfl
theorem filt_true {α : Type} : ∀ xs : List α, xs.filter (fun _ => true) = xs
  | [] => rfl
  | x :: r => by rw [List.filter_cons, if_pos rfl, filt_true r]
theorem bools_map {α : Type} (f : α → Bool) : ∀ xs : List α, boolsOf (xs.map fun x => PyData.bool (f x)) = some (xs.map f)
  | [] => rfl
  | x :: r => by rw [List.map_cons, boolsOf, bools_map f r]; rfl
section
variable {cf : CF} {γ : En} {τ : Tape} {i n : Nat} {a elt cond : IE} {p : Nat → Bool}
theorem comp_r {c : Nat → Bool} {y : Nat → D} (hn : n ≤ 1000000) (ha : evalE cf a γ τ = some (nI n, τ)) (h : ∀ x, x < n → tst (evalE cf cond (γ.set i (some (nI x))) τ) = some (c x, τ) ∧ (c x = true → evalE cf elt (γ.set i (some (nI x))) τ = some (y x, τ))) :
    evalE cf (.comp [i] (.n i) .r1 [a] cond elt) γ τ = some (.list (((List.range n).filter c).map y), τ) :=
  ev_c1 (List.range n) nI c y (by simp only [evalEs, ha, Option.bind_some, Option.map_some]) (range_n n hn) (lenOk_n n hn) fun x hx => ⟨γ.set i (some (nI x)), by simp only [bindT], h x (List.mem_range.mp hx)⟩
theorem any_r (hn : n ≤ 1000000) (ha : evalE cf a γ τ = some (nI n, τ)) (h : ∀ x, x < n → evalE cf elt (γ.set i (some (nI x))) τ = some (.bool (p x), τ)) :
    evalE cf (.b1 .any (.comp [i] (.n i) .r1 [a] .yes elt)) γ τ = some (.bool ((List.range n).any p), τ) := by
  rw [e_b1, comp_r (c := fun _ => true) (y := fun x => .bool (p x)) hn ha fun x hx => ⟨by simp only [tst, evalE, Option.bind_some, truth, Option.map_some], fun _ => h x hx⟩, un1_some]
  rw [filt_true]
  simp only [opB1, bAny, listOf, Option.bind_some, bools_map, Option.map_some, lft_some, List.any_map]
  rfl
theorem all_r (hn : n ≤ 1000000) (ha : evalE cf a γ τ = some (nI n, τ)) (h : ∀ x, x < n → evalE cf elt (γ.set i (some (nI x))) τ = some (.bool (p x), τ)) :
    evalE cf (.b1 .all (.comp [i] (.n i) .r1 [a] .yes elt)) γ τ = some (.bool ((List.range n).all p), τ) := by
  rw [e_b1, comp_r (c := fun _ => true) (y := fun x => .bool (p x)) hn ha fun x hx => ⟨by simp only [tst, evalE, Option.bind_some, truth, Option.map_some], fun _ => h x hx⟩, un1_some]
  rw [filt_true]
  simp only [opB1, bAll, listOf, Option.bind_some, bools_map, Option.map_some, lft_some, List.all_map]
  rfl
theorem fil_r (hn : n ≤ 1000000) (hi : i < γ.length) (ha : evalE cf a γ τ = some (nI n, τ)) (h : ∀ x, x < n → evalE cf cond (γ.set i (some (nI x))) τ = some (.bool (p x), τ)) :
    evalE cf (.comp [i] (.n i) .r1 [a] cond (.v i)) γ τ = some (.list (((List.range n).filter p).map nI), τ) :=
  comp_r hn ha fun x hx => ⟨by rw [h x hx]; rfl, fun _ => by
    simp only [evalE, rd]
    rw [List.getD_eq_getElem?_getD, List.getElem?_set_self hi]
    rfl⟩
theorem len_l (xs : List D) : opB1 .len (.list xs) = some (nI xs.length) := rfl
theorem flen_r (hn : n ≤ 1000000) (hi : i < γ.length) (ha : evalE cf a γ τ = some (nI n, τ)) (h : ∀ x, x < n → evalE cf cond (γ.set i (some (nI x))) τ = some (.bool (p x), τ)) :
    evalE cf (.b1 .len (.comp [i] (.n i) .r1 [a] cond (.v i))) γ τ = some (nI ((List.range n).filter p).length, τ) := by
  rw [e_b1, fil_r hn hi ha h, un1_some, len_l, lft_some, List.length_map]
theorem for_find {ks : List Nat} {G : List Ty} {b : List IS} {r : Nat → D} (hn : n ≤ 1000000) (ha : evalE cf a γ τ = some (nI n, τ))
    (h : ∀ x, x < n → if p x = true then execSs cf b (γ.set i (some (nI x))) τ = some (.rt (r x) τ) else ∃ γ', execSs cf b (γ.set i (some (nI x))) τ = some (.nx γ' τ) ∧ kill γ' ks = γ) :
    execS cf (.for (.n i) .r1 [a] b ks G) γ τ = some (match (List.range n).find? p with | some x => .rt (r x) τ | none => .nx γ τ) := by
  simp only [execS, evalEs, ha, Option.bind_some, Option.map_some, range_n n hn]
  have e := forL_find (f := fun x g t => (bindT (.n i) x g).bind fun g' => execSs cf b g' t) (ks := ks) (enc := nI) (p := p) (r := r) (γ := γ) (τ := τ) (xs := List.range n) (fun x hx => by
    have q := h x (List.mem_range.mp hx)
    simpa only [bindT, Option.bind_some] using q)
  rw [e]
  all_goals (cases (List.range n).find? p <;> rfl)
end
end Ev
namespace Ev
open PySem
theorem forL_pre {α : Type} {f : D → En → Tape → Option Out} {ks : List Nat} {enc : α → D} {env : List α → En} {τ : Tape} : ∀ {xs pre : List α}, (∀ p x q, pre ++ xs = p ++ x :: q → pre.length ≤ p.length → ∃ γ', f (enc x) (env p) τ = some (.nx γ' τ) ∧ kill γ' ks = env (p ++ [x])) →
    forL f ks (xs.map enc) (env pre) τ = some (.nx (env (pre ++ xs)) τ)
  | [], pre, _ => by rw [List.append_nil]; rfl
  | x :: xs, pre, h => by
    obtain ⟨γ', e1, e2⟩ := h pre x xs rfl (Nat.le_refl _)
    rw [List.map_cons, forL, e1, Option.bind_some]
    show forL f ks (xs.map enc) (kill γ' ks) τ = _
    rw [e2, forL_pre (xs := xs) (pre := pre ++ [x]) fun p y q e l => h p y q (by rw [← e, List.append_assoc]; rfl) (by rw [List.length_append] at l; simp at l; omega)]
    rw [List.append_assoc]
    rfl
theorem seq_l (xs : List D) : items .seq [.list xs] = some xs := rfl
theorem seq_t (xs : List D) : items .seq [.tuple xs] = some xs := rfl
section
variable {cf : CF} {γ : En} {τ : Tape}
theorem for_pre {α : Type} {tg : Tg} {k : IK} {args : List IE} {b : List IS} {ks : List Nat} {G : List Ty} {ds : List D} (xs : List α) (enc : α → D) (env : List α → En) (h1 : evalEs cf args (env []) τ = some (ds, τ)) (h2 : items k ds = some (xs.map enc))
    (h : ∀ p x q, xs = p ++ x :: q → ∃ g γ', bindT tg (enc x) (env p) = some g ∧ execSs cf b g τ = some (.nx γ' τ) ∧ kill γ' ks = env (p ++ [x])) :
    execS cf (.for tg k args b ks G) (env []) τ = some (.nx (env xs) τ) := by
  simp only [execS, h1, Option.bind_some, h2]
  have e := forL_pre (f := fun x g t => (bindT tg x g).bind fun g' => execSs cf b g' t) (ks := ks) (enc := enc) (env := env) (τ := τ) (xs := xs) (pre := []) (fun p x q e _ => by
    obtain ⟨g, γ', e1, e2, e3⟩ := h p x q e
    exact ⟨γ', by show (bindT tg (enc x) (env p)).bind _ = _; rw [e1, Option.bind_some, e2], e3⟩)
  rw [e]
  rfl
theorem for_hit {α : Type} {tg : Tg} {k : IK} {args : List IE} {b : List IS} {ks : List Nat} {G : List Ty} {ds : List D} (xs : List α) (enc : α → D) (p : α → Bool) (r : α → D) (h1 : evalEs cf args γ τ = some (ds, τ)) (h2 : items k ds = some (xs.map enc))
    (h : ∀ x ∈ xs, ∃ g, bindT tg (enc x) γ = some g ∧ if p x = true then execSs cf b g τ = some (.rt (r x) τ) else ∃ γ', execSs cf b g τ = some (.nx γ' τ) ∧ kill γ' ks = γ) :
    execS cf (.for tg k args b ks G) γ τ = some (match xs.find? p with | some x => .rt (r x) τ | none => .nx γ τ) := by
  simp only [execS, h1, Option.bind_some, h2]
  have e := forL_find (f := fun x g t => (bindT tg x g).bind fun g' => execSs cf b g' t) (ks := ks) (enc := enc) (p := p) (r := r) (γ := γ) (τ := τ) (xs := xs) (fun x hx => by
    obtain ⟨g, e1, e2⟩ := h x hx
    simpa only [e1, Option.bind_some] using e2)
  rw [e]
  all_goals (cases xs.find? p <;> rfl)
theorem ev_c2 {α : Type} {own : List Nat} {tg tg2 : Tg} {k : IK} {args args2 : List IE} {elt : IE} {ds : List D} {n : Nat} (xs : List α) (enc : α → D) (y : α → Nat → D) (hn : n ≤ 1000000) (h1 : evalEs cf args γ τ = some (ds, τ)) (h2 : items k ds = some (xs.map enc))
    (h : ∀ x ∈ xs, ∃ g, bindT tg (enc x) γ = some g ∧ evalEs cf args2 g τ = some ([nI n], τ) ∧ ∀ v, v < n → ∃ g2, bindT tg2 (nI v) g = some g2 ∧ evalE cf elt g2 τ = some (y x v, τ)) (hl : (xs.flatMap fun x => (List.range n).map (y x)).length ≤ sizeLine) :
    evalE cf (.comp2 own tg k args .yes tg2 .r1 args2 .yes elt) γ τ = some (.list (xs.flatMap fun x => (List.range n).map (y x)), τ) := by
  simp only [evalE, h1, Option.bind_some, h2]
  rw [compLs_pure (enc := enc) (g := fun x => (List.range n).map (y x))]
  · simp only [Option.bind_some]
    rw [if_pos hl]
  · intro x hx
    obtain ⟨g, e1, e2, e3⟩ := h x hx
    simp only [e1, Option.bind_some, tst, evalE, truth, Option.map_some, if_true, e2, range_n n hn]
    rw [compL_pure (enc := nI) (g := fun v => some (y x v))]
    · rw [show (List.range n).filterMap (fun v => some (y x v)) = (List.range n).map (y x) from congrFun List.filterMap_eq_map _]
    · intro v hv
      obtain ⟨g2, q1, q2⟩ := e3 v (List.mem_range.mp hv)
      simp only [q1, Option.bind_some, q2, if_true, Option.map_some]
theorem e_dcst (kvs : List (Str × D)) (e : IE) : evalE cf (.dcst kvs e) γ τ = un1 (evalE cf e γ τ) (fun d => (strOf d).bind (lastK kvs)) := by
  simp only [evalE, un1, lft]
  cases evalE cf e γ τ with
  | none => rfl
  | some p =>
    simp only [Option.bind_some]
    cases strOf p.1 <;> rfl
end
end Ev
namespace Ev
open PySem
theorem x_ext {cf : CF} {γ : En} {τ : Tape} {i : Nat} {e : IE} {xs ys : List D} (h1 : evalE cf e γ τ = some (.list ys, τ)) (h2 : rd γ i = some (.list xs)) (hl : xs.length + ys.length ≤ sizeLine) : execS cf (.ext i e) γ τ = some (.nx (γ.set i (some (.list (xs ++ ys)))) τ) := by
  simp only [execS, h1, h2, Option.bind_some]
  rw [if_pos hl]
theorem x_app {cf : CF} {γ : En} {τ τ' : Tape} {i : Nat} {e : IE} {xs : List D} {y : D} (h1 : evalE cf e γ τ = some (y, τ')) (h2 : rd γ i = some (.list xs)) (hl : xs.length < sizeLine) : execS cf (.app i e) γ τ = some (.nx (γ.set i (some (.list (xs ++ [y])))) τ') := by
  simp only [execS, h1, h2, Option.bind_some]
  rw [if_pos hl]
end Ev
set_option autoImplicit true
set_option Elab.async false
set_option linter.all false
set_option maxRecDepth 100000
namespace K69
open PySem PySem.Spec PyProof.Rows L2 Ev
def top (i : Nat) : Stmt := PySem.Challenge.pw_tablewright_k69_whole_kinds.main.body.getD i (.Pass ⟨0, 0, 0, 0⟩)
def N_times : List Str := ["table", "size", "one", "other"]
def ir_times : List IS := [.ret (.ix (.v 0) (.bin .add (.bin .mul (.v 2) (.v 1)) (.v 3)))]
def N_sides : List Str := ["word", "table", "size", "args", "a", "b", "c", "d", "one", "other", "across", "left"]
def ir_sides : List IS := [.set (.l [(.n 4), (.n 5), (.n 6), (.n 7)]) (.slT (.bin .add (.b1 .list (.v 3)) (.lst [(.c (.int 0)), (.c (.int 0)), (.c (.int 0)), (.c (.int 0))])) (.c (.int 4))), .ite (.cmp .eq (.v 0) (.c (.str "idem"))) [.ret (.tup [(.call 0 [(.v 1), (.v 2), (.v 4), (.v 4)]), (.v 4)])] [], .par 8 9 (.call 0 [(.v 1), (.v 2), (.v 4), (.v 5)]) (.call 0 [(.v 1), (.v 2), (.v 5), (.v 6)]), .ite (.cmp .eq (.v 0) (.c (.str "comm"))) [.ret (.tup [(.v 8), (.call 0 [(.v 1), (.v 2), (.v 5), (.v 4)])])] [], .ite (.cmp .eq (.v 0) (.c (.str "assoc"))) [.ret (.tup [(.call 0 [(.v 1), (.v 2), (.v 8), (.v 6)]), (.call 0 [(.v 1), (.v 2), (.v 4), (.v 9)])])] [], .set (.n 10) (.call 0 [(.v 1), (.v 2), (.v 4), (.v 6)]), .ite (.cmp .eq (.v 0) (.c (.str "medial"))) [.set (.n 11) (.call 0 [(.v 1), (.v 2), (.v 8), (.call 0 [(.v 1), (.v 2), (.v 6), (.v 7)])]), .ret (.tup [(.v 11), (.call 0 [(.v 1), (.v 2), (.v 10), (.call 0 [(.v 1), (.v 2), (.v 5), (.v 7)])])])] [], .ret (.tup [(.call 0 [(.v 1), (.v 2), (.v 4), (.v 9)]), (.call 0 [(.v 1), (.v 2), (.v 8), (.v 10)])])]
def N_places_of : List Str := ["word"]
def ir_places_of : List IS := [.ret (.dcst [("assoc", (.int 3)), ("comm", (.int 2)), ("idem", (.int 1)), ("medial", (.int 4)), ("leftdist", (.int 3)), ("cancel", (.int 3)), ("divide", (.int 2))] (.v 0))]
def N_tuples : List Str := ["size", "many", "found", "turn", "row", "value"]
def ir_tuples : List IS := [.set (.n 2) (.lst [(.tup [])]), .for (.n 3) .r1 [(.v 1)] [.set (.n 2) (.comp2 [4, 5] (.n 4) .seq [(.v 2)] .yes (.n 5) .r1 [(.v 0)] .yes (.bin .add (.v 4) (.tup [(.v 5)])))] [3] [.p, .p, .p, .u, .u, .u], .ret (.v 2)]
def N_breaks_at : List Str := ["word", "table", "size", "args", "one", "other", "a", "b", "c", "left"]
def ir_breaks_at : List IS := [.ite (.cmp .eq (.v 0) (.c (.str "cancel"))) [.set (.t [(.n 6), (.n 7), (.n 8)]) (.v 3), .set (.n 9) (.cmp .eq (.call 0 [(.v 1), (.v 2), (.v 6), (.v 7)]) (.call 0 [(.v 1), (.v 2), (.v 6), (.v 8)])), .ret (.and (.cmp .ne (.v 7) (.v 8)) (.or (.v 9) (.cmp .eq (.call 0 [(.v 1), (.v 2), (.v 7), (.v 6)]) (.call 0 [(.v 1), (.v 2), (.v 8), (.v 6)]))))] [], .ite (.cmp .eq (.v 0) (.c (.str "divide"))) [.set (.t [(.n 6), (.n 7)]) (.v 3), .set (.n 9) (.b1 .any (.comp [8] (.n 8) .r1 [(.v 2)] .yes (.cmp .eq (.call 0 [(.v 1), (.v 2), (.v 6), (.v 8)]) (.v 7)))), .ret (.not (.and (.v 9) (.b1 .any (.comp [8] (.n 8) .r1 [(.v 2)] .yes (.cmp .eq (.call 0 [(.v 1), (.v 2), (.v 8), (.v 6)]) (.v 7))))))] [], .set (.t [(.n 4), (.n 5)]) (.call 1 [(.v 0), (.v 1), (.v 2), (.v 3)]), .ret (.cmp .ne (.v 4) (.v 5))]
def N_law_of : List Str := ["word", "table", "size", "args"]
def ir_law_of : List IS := [.for (.n 3) .seq [(.call 3 [(.v 2), (.call 2 [(.v 0)])])] [.ite (.call 4 [(.v 0), (.v 1), (.v 2), (.v 3)]) [.ret (.tup [(.c (.str "breaks")), (.v 3)])] []] [3] [.p, .p, .p, .u], .ret (.tup [(.c (.str "holds"))])]
def N_unit_of : List Str := ["table", "size", "one", "a"]
def ir_unit_of : List IS := [.for (.n 2) .r1 [(.v 1)] [.ite (.b1 .all (.comp [3] (.n 3) .r1 [(.v 1)] .yes (.cmp2 .eq .eq (.call 0 [(.v 0), (.v 1), (.v 2), (.v 3)]) (.v 3) (.call 0 [(.v 0), (.v 1), (.v 3), (.v 2)])))) [.ret (.v 2)] []] [2] [.p, .p, .u, .u], .ret (.c .none)]
def N_without_inverse : List Str := ["table", "size", "unit", "a", "b"]
def ir_without_inverse : List IS := [.for (.n 3) .r1 [(.v 1)] [.ite (.not (.b1 .any (.comp [4] (.n 4) .r1 [(.v 1)] .yes (.cmp2 .eq .eq (.call 0 [(.v 0), (.v 1), (.v 3), (.v 4)]) (.v 2) (.call 0 [(.v 0), (.v 1), (.v 4), (.v 3)]))))) [.ret (.v 3)] []] [3] [.p, .p, .p, .u, .u], .ret (.c .none)]
def N_kind : List Str := ["table", "size", "told", "unit", "lack", "square", "swap"]
def ir_kind : List IS := [.set (.n 2) (.call 5 [(.c (.str "assoc")), (.v 0), (.v 1)]), .ite (.cmp .eq (.ix (.v 2) (.c (.int 0))) (.c (.str "breaks"))) [.set (.n 5) (.call 5 [(.c (.str "cancel")), (.v 0), (.v 1)]), .ite (.cmp .eq (.ix (.v 5) (.c (.int 0))) (.c (.str "holds"))) [.ret (.tup [(.ite (.notN (.call 6 [(.v 0), (.v 1)])) (.c (.str "loop")) (.c (.str "square"))), (.tup [(.c (.str "assoc")), (.ix (.v 2) (.c (.int 1)))])])] [], .ret (.tup [(.c (.str "table")), (.tup [(.c (.str "assoc")), (.ix (.v 2) (.c (.int 1)))])])] [], .set (.n 3) (.call 6 [(.v 0), (.v 1)]), .ite (.and (.notN (.v 3)) (.isN (.call 7 [(.v 0), (.v 1), (.v 3)]))) [.set (.n 6) (.call 5 [(.c (.str "comm")), (.v 0), (.v 1)]), .ret (.ite (.cmp .eq (.ix (.v 6) (.c (.int 0))) (.c (.str "holds"))) (.tup [(.c (.str "commuting group")), (.c .none)]) (.tup [(.c (.str "group")), (.tup [(.c (.str "comm")), (.ix (.v 6) (.c (.int 1)))])]))] [], .set (.n 4) (.ite (.isN (.v 3)) (.tup [(.c (.str "unit")), (.c .none)]) (.tup [(.c (.str "inverse")), (.call 7 [(.v 0), (.v 1), (.v 3)])])), .ite (.cmp .eq (.ix (.call 5 [(.c (.str "idem")), (.v 0), (.v 1)]) (.c (.int 0))) (.c (.str "holds"))) [.ret (.tup [(.ite (.cmp .eq (.ix (.call 5 [(.c (.str "comm")), (.v 0), (.v 1)]) (.c (.int 0))) (.c (.str "holds"))) (.c (.str "semilattice")) (.c (.str "band"))), (.v 4)])] [], .ret (.tup [(.ite (.notN (.v 3)) (.c (.str "monoid")) (.c (.str "semigroup"))), (.v 4)])]
def N_centre : List Str := ["table", "size", "found", "a", "b"]
def ir_centre : List IS := [.own 2 .o (.lst []), .for (.n 3) .r1 [(.v 1)] [.ite (.b1 .all (.comp [4] (.n 4) .r1 [(.v 1)] .yes (.cmp .eq (.call 0 [(.v 0), (.v 1), (.v 3), (.v 4)]) (.call 0 [(.v 0), (.v 1), (.v 4), (.v 3)])))) [.app 2 (.v 3)] []] [3] [.p, .p, .o, .u, .u], .frz 2, .ret (.v 2)]
def N_commuting_pairs : List Str := ["table", "size", "a", "b"]
def ir_commuting_pairs : List IS := [.ret (.b1 .len (.comp [2, 3] (.t [(.n 2), (.n 3)]) .seq [(.call 3 [(.v 1), (.c (.int 2))])] (.cmp .eq (.call 0 [(.v 0), (.v 1), (.v 2), (.v 3)]) (.call 0 [(.v 0), (.v 1), (.v 3), (.v 2)])) (.c (.int 1))))]
def N_idempotents : List Str := ["table", "size", "a"]
def ir_idempotents : List IS := [.ret (.comp [2] (.n 2) .r1 [(.v 1)] (.cmp .eq (.call 0 [(.v 0), (.v 1), (.v 2), (.v 2)]) (.v 2)) (.v 2))]
def N_zero_of : List Str := ["table", "size", "one", "a"]
def ir_zero_of : List IS := [.for (.n 2) .r1 [(.v 1)] [.ite (.b1 .all (.comp [3] (.n 3) .r1 [(.v 1)] .yes (.cmp2 .eq .eq (.call 0 [(.v 0), (.v 1), (.v 2), (.v 3)]) (.v 2) (.call 0 [(.v 0), (.v 1), (.v 3), (.v 2)])))) [.ret (.v 2)] []] [2] [.p, .p, .u, .u], .ret (.c .none)]
def N__law_take : List Str := ["state", "most", "cells", "at", "cell", "mixed"]
def ir__law_take : List IS := [.cget 2 0 1, .set (.n 3) (.bin .mod (.stx 0 0) (.clen 2)), .set (.n 4) (.cix 2 (.v 3)), .ite (.cmp .ge (.v 4) (.c (.int 1000000000000000000))) [.cset 2 (.v 3) (.bin .fdiv (.v 4) (.v 1)), .ret (.bin .mod (.v 4) (.v 1))] [], .sset 0 0 (.bin .add (.stx 0 0) (.c (.int 1))), .set (.n 5) (.bin .mod (.b1 .int (.bin .add (.bin .mul (.v 4) (.c (.int 48271))) (.bin .mul (.stx 0 0) (.c (.int 69621))))) (.c (.int 2147483647))), .set (.n 5) (.bin .mod (.b1 .int (.bin .add (.bin .mul (.v 5) (.c (.int 16807))) (.bin .mul (.stx 0 0) (.c (.int 7919))))) (.c (.int 1000000007))), .ret (.bin .mod (.bin .fdiv (.v 5) (.c (.int 7))) (.v 1))]
def N__law_draw_table : List Str := ["state", "form", "size", "table", "a", "b", "total", "drawn", "rows"]
def ir__law_draw_table : List IS := [.set (.n 1) (.call 13 [(.v 0), (.c (.int 8))]), .set (.n 2) (.bin .add (.c (.int 1)) (.call 13 [(.v 0), (.c (.int 5))])), .ite (.cmp .eq (.v 1) (.c (.int 0))) [.ret (.tup [(.call 15 []), (.c (.int 6))])] [], .own 3 .o (.lst []), .for (.n 4) .r1 [(.v 2)] [.for (.n 5) .r1 [(.v 2)] [.set (.n 6) (.bin .add (.v 4) (.v 5)), .set (.n 7) (.call 13 [(.v 0), (.v 2)]), .set (.n 8) (.lst [(.v 7), (.bin .sub (.v 6) (.bin .mul (.bin .fdiv (.v 6) (.v 2)) (.v 2))), (.b2 .min (.v 4) (.v 5)), (.b2 .max (.v 4) (.v 5)), (.v 4), (.v 7), (.bin .sub (.bin .sub (.bin .add (.bin .mul (.v 2) (.v 2)) (.v 4)) (.v 5)) (.bin .mul (.bin .fdiv (.bin .sub (.bin .add (.bin .mul (.v 2) (.v 2)) (.v 4)) (.v 5)) (.v 2)) (.v 2))), (.v 7)]), .app 3 (.ix (.v 8) (.v 1))] [5, 6, 7, 8] [.st, .p, .p, .o, .p, .u, .u, .u, .u]] [4, 5, 6, 7, 8] [.st, .p, .p, .o, .u, .u, .u, .u, .u], .ite (.cmp .eq (.call 13 [(.v 0), (.c (.int 4))]) (.c (.int 0))) [.setix 3 (.call 13 [(.v 0), (.b1 .len (.v 3))]) (.call 13 [(.v 0), (.v 2)])] [], .ret (.tup [(.b1 .tuple (.v 3)), (.v 2)])]
def N__law_sym : List Str := ["rows", "table", "one", "other", "value"]
def ir__law_sym : List IS := [.set (.n 0) (.lst [(.tup [(.c (.int 0)), (.c (.int 1)), (.c (.int 2))]), (.tup [(.c (.int 0)), (.c (.int 2)), (.c (.int 1))]), (.tup [(.c (.int 1)), (.c (.int 0)), (.c (.int 2))]), (.tup [(.c (.int 1)), (.c (.int 2)), (.c (.int 0))]), (.tup [(.c (.int 2)), (.c (.int 0)), (.c (.int 1))]), (.tup [(.c (.int 2)), (.c (.int 1)), (.c (.int 0))])]), .own 1 .o (.lst []), .for (.n 2) .seq [(.v 0)] [.ext 1 (.comp [3] (.n 3) .seq [(.v 0)] .yes (.mth .index (.v 0) [(.b1 .tuple (.comp [4] (.n 4) .seq [(.v 2)] .yes (.ix (.v 3) (.v 4))))]))] [2] [.p, .o, .u, .u, .u], .ret (.b1 .tuple (.v 1))]
def N__law_broken : List Str := ["word", "table", "size", "args", "a", "b", "c", "d", "t"]
def ir__law_broken : List IS := [.set (.t [(.n 4), (.n 5), (.n 6), (.n 7)]) (.bin .add (.v 3) (.bin .mul (.tup [(.c (.int 0))]) (.bin .sub (.c (.int 4)) (.b1 .len (.v 3))))), .set (.n 8) (.v 1), .ite (.cmp .eq (.v 0) (.c (.str "assoc"))) [.ret (.cmp .ne (.ix (.v 8) (.bin .add (.bin .mul (.ix (.v 8) (.bin .add (.bin .mul (.v 4) (.v 2)) (.v 5))) (.v 2)) (.v 6))) (.ix (.v 8) (.bin .add (.bin .mul (.v 4) (.v 2)) (.ix (.v 8) (.bin .add (.bin .mul (.v 5) (.v 2)) (.v 6))))))] [], .ite (.cmp .eq (.v 0) (.c (.str "comm"))) [.ret (.cmp .ne (.ix (.v 8) (.bin .add (.bin .mul (.v 4) (.v 2)) (.v 5))) (.ix (.v 8) (.bin .add (.bin .mul (.v 5) (.v 2)) (.v 4))))] [], .ite (.cmp .eq (.v 0) (.c (.str "idem"))) [.ret (.cmp .ne (.ix (.v 8) (.bin .add (.bin .mul (.v 4) (.v 2)) (.v 4))) (.v 4))] [], .ite (.cmp .eq (.v 0) (.c (.str "medial"))) [.ret (.cmp .ne (.ix (.v 8) (.bin .add (.bin .mul (.ix (.v 8) (.bin .add (.bin .mul (.v 4) (.v 2)) (.v 5))) (.v 2)) (.ix (.v 8) (.bin .add (.bin .mul (.v 6) (.v 2)) (.v 7))))) (.ix (.v 8) (.bin .add (.bin .mul (.ix (.v 8) (.bin .add (.bin .mul (.v 4) (.v 2)) (.v 6))) (.v 2)) (.ix (.v 8) (.bin .add (.bin .mul (.v 5) (.v 2)) (.v 7))))))] [], .ite (.cmp .eq (.v 0) (.c (.str "leftdist"))) [.ret (.cmp .ne (.ix (.v 8) (.bin .add (.bin .mul (.v 4) (.v 2)) (.ix (.v 8) (.bin .add (.bin .mul (.v 5) (.v 2)) (.v 6))))) (.ix (.v 8) (.bin .add (.bin .mul (.ix (.v 8) (.bin .add (.bin .mul (.v 4) (.v 2)) (.v 5))) (.v 2)) (.ix (.v 8) (.bin .add (.bin .mul (.v 4) (.v 2)) (.v 6))))))] [], .ite (.cmp .eq (.v 0) (.c (.str "cancel"))) [.ret (.and (.cmp .ne (.v 5) (.v 6)) (.or (.cmp .eq (.ix (.v 8) (.bin .add (.bin .mul (.v 4) (.v 2)) (.v 5))) (.ix (.v 8) (.bin .add (.bin .mul (.v 4) (.v 2)) (.v 6)))) (.cmp .eq (.ix (.v 8) (.bin .add (.bin .mul (.v 5) (.v 2)) (.v 4))) (.ix (.v 8) (.bin .add (.bin .mul (.v 6) (.v 2)) (.v 4))))))] [], .ret (.or (.cmp .eq (.b1 .len (.comp [6] (.n 6) .r1 [(.v 2)] (.cmp .eq (.ix (.v 8) (.bin .add (.bin .mul (.v 4) (.v 2)) (.v 6))) (.v 5)) (.v 6))) (.c (.int 0))) (.cmp .eq (.b1 .len (.comp [6] (.n 6) .r1 [(.v 2)] (.cmp .eq (.ix (.v 8) (.bin .add (.bin .mul (.v 6) (.v 2)) (.v 4))) (.v 5)) (.v 6))) (.c (.int 0))))]
def N__law_of : List Str := ["word", "table", "size", "many", "found", "turn", "args", "more", "row", "value"]
def ir__law_of : List IS := [.set (.n 3) (.dcst [("assoc", (.int 3)), ("comm", (.int 2)), ("idem", (.int 1)), ("medial", (.int 4)), ("leftdist", (.int 3)), ("cancel", (.int 3)), ("divide", (.int 2))] (.v 0)), .set (.n 4) (.lst [(.tup [])]), .for (.n 5) .r1 [(.v 3)] [.own 7 .o (.lst []), .for (.n 8) .seq [(.v 4)] [.ext 7 (.comp [9] (.n 9) .r1 [(.v 2)] .yes (.bin .add (.v 8) (.tup [(.v 9)])))] [8] [.p, .p, .p, .p, .p, .p, .u, .o, .u, .u], .frz 7, .set (.n 4) (.v 7)] [5, 7, 8] [.p, .p, .p, .p, .p, .u, .u, .u, .u, .u], .for (.n 6) .seq [(.v 4)] [.ite (.call 16 [(.v 0), (.v 1), (.v 2), (.v 6)]) [.ret (.tup [(.c (.str "breaks")), (.v 6)])] []] [6] [.p, .p, .p, .p, .p, .u, .u, .u, .u, .u], .ret (.tup [(.c (.str "holds"))])]
def N__law_unit : List Str := ["table", "size", "found", "a", "b"]
def ir__law_unit : List IS := [.set (.n 2) (.comp [3] (.n 3) .r1 [(.v 1)] (.cmp .eq (.b1 .len (.comp [4] (.n 4) .r1 [(.v 1)] (.or (.cmp .ne (.ix (.v 0) (.bin .add (.bin .mul (.v 3) (.v 1)) (.v 4))) (.v 4)) (.cmp .ne (.ix (.v 0) (.bin .add (.bin .mul (.v 4) (.v 1)) (.v 3))) (.v 4))) (.v 4))) (.c (.int 0))) (.v 3)), .ret (.ite (.cmp .gt (.b1 .len (.v 2)) (.c (.int 0))) (.ix (.v 2) (.c (.int 0))) (.c .none))]
def N__law_kind : List Str := ["table", "size", "told", "unit", "swap", "lack", "cancels", "alone", "a", "b"]
def ir__law_kind : List IS := [.set (.n 2) (.call 17 [(.c (.str "assoc")), (.v 0), (.v 1)]), .set (.n 3) (.call 18 [(.v 0), (.v 1)]), .ite (.cmp .eq (.ix (.v 2) (.c (.int 0))) (.c (.str "breaks"))) [.set (.n 6) (.cmp .eq (.ix (.call 17 [(.c (.str "cancel")), (.v 0), (.v 1)]) (.c (.int 0))) (.c (.str "holds"))), .ret (.tup [(.ite (.not (.v 6)) (.c (.str "table")) (.ite (.notN (.v 3)) (.c (.str "loop")) (.c (.str "square")))), (.tup [(.c (.str "assoc")), (.ix (.v 2) (.c (.int 1)))])])] [], .set (.n 4) (.call 17 [(.c (.str "comm")), (.v 0), (.v 1)]), .set (.n 5) (.tup [(.c (.str "unit")), (.c .none)]), .ite (.notN (.v 3)) [.set (.n 7) (.comp [8] (.n 8) .r1 [(.v 1)] (.cmp .eq (.b1 .len (.comp [9] (.n 9) .r1 [(.v 1)] (.and (.cmp .eq (.ix (.v 0) (.bin .add (.bin .mul (.v 8) (.v 1)) (.v 9))) (.v 3)) (.cmp .eq (.ix (.v 0) (.bin .add (.bin .mul (.v 9) (.v 1)) (.v 8))) (.v 3))) (.v 9))) (.c (.int 0))) (.v 8)), .ite (.cmp .eq (.b1 .len (.v 7)) (.c (.int 0))) [.ret (.ite (.cmp .eq (.ix (.v 4) (.c (.int 0))) (.c (.str "holds"))) (.tup [(.c (.str "commuting group")), (.c .none)]) (.tup [(.c (.str "group")), (.tup [(.c (.str "comm")), (.ix (.v 4) (.c (.int 1)))])]))] [], .set (.n 5) (.tup [(.c (.str "inverse")), (.ix (.v 7) (.c (.int 0)))])] [], .ite (.cmp .eq (.ix (.call 17 [(.c (.str "idem")), (.v 0), (.v 1)]) (.c (.int 0))) (.c (.str "holds"))) [.ret (.tup [(.ite (.cmp .eq (.ix (.v 4) (.c (.int 0))) (.c (.str "holds"))) (.c (.str "semilattice")) (.c (.str "band"))), (.v 5)])] [], .ret (.tup [(.ite (.notN (.v 3)) (.c (.str "monoid")) (.c (.str "semigroup"))), (.v 5)])]
def N_law : List Str := ["script", "state", "table", "size", "word", "zero", "middle", "pairs", "a", "b"]
def ir_law : List IS := [.set (.t [(.n 2), (.n 3)]) (.call 14 [(.v 1)]), .for (.n 4) .seq [(.lst [(.c (.str "assoc")), (.c (.str "comm")), (.c (.str "idem")), (.c (.str "medial")), (.c (.str "leftdist")), (.c (.str "cancel")), (.c (.str "divide"))])] [.ite (.cmp .ne (.call 5 [(.v 4), (.v 2), (.v 3)]) (.call 17 [(.v 4), (.v 2), (.v 3)])) [.ret (.c (.bool false))] []] [4] [.u, .st, .p, .p, .u, .u, .u, .u, .u, .u], .set (.n 5) (.comp [8] (.n 8) .r1 [(.v 3)] (.cmp .eq (.b1 .len (.comp [9] (.n 9) .r1 [(.v 3)] (.or (.cmp .ne (.ix (.v 2) (.bin .add (.bin .mul (.v 8) (.v 3)) (.v 9))) (.v 8)) (.cmp .ne (.ix (.v 2) (.bin .add (.bin .mul (.v 9) (.v 3)) (.v 8))) (.v 8))) (.v 9))) (.c (.int 0))) (.v 8)), .set (.n 6) (.comp [8] (.n 8) .r1 [(.v 3)] (.cmp .eq (.b1 .len (.comp [9] (.n 9) .r1 [(.v 3)] (.cmp .ne (.ix (.v 2) (.bin .add (.bin .mul (.v 8) (.v 3)) (.v 9))) (.ix (.v 2) (.bin .add (.bin .mul (.v 9) (.v 3)) (.v 8)))) (.v 9))) (.c (.int 0))) (.v 8)), .set (.n 7) (.b1 .sum (.comp [8] (.n 8) .r1 [(.v 3)] .yes (.b1 .len (.comp [9] (.n 9) .r1 [(.v 3)] (.cmp .eq (.ix (.v 2) (.bin .add (.bin .mul (.v 8) (.v 3)) (.v 9))) (.ix (.v 2) (.bin .add (.bin .mul (.v 9) (.v 3)) (.v 8)))) (.v 9))))), .ite (.or (.cmp .ne (.call 6 [(.v 2), (.v 3)]) (.call 18 [(.v 2), (.v 3)])) (.cmp .ne (.call 12 [(.v 2), (.v 3)]) (.ite (.cmp .gt (.b1 .len (.v 5)) (.c (.int 0))) (.ix (.v 5) (.c (.int 0))) (.c .none)))) [.ret (.c (.bool false))] [], .ite (.or (.cmp .ne (.call 9 [(.v 2), (.v 3)]) (.v 6)) (.cmp .ne (.call 10 [(.v 2), (.v 3)]) (.v 7))) [.ret (.c (.bool false))] [], .ite (.cmp .ne (.call 11 [(.v 2), (.v 3)]) (.comp [8] (.n 8) .r1 [(.v 3)] (.cmp .eq (.ix (.v 2) (.bin .add (.bin .mul (.v 8) (.v 3)) (.v 8))) (.v 8)) (.v 8))) [.ret (.c (.bool false))] [], .ret (.cmp .eq (.call 8 [(.v 2), (.v 3)]) (.call 19 [(.v 2), (.v 3)]))]
def P : Prg := [.body [.p, .p, .p, .p] .p 4 ir_times, .body [.p, .p, .p, .p] .p 12 ir_sides, .body [.p] .p 1 ir_places_of, .body [.p, .p] .p 6 ir_tuples, .body [.p, .p, .p, .p] .p 10 ir_breaks_at, .body [.p, .p, .p] .p 4 ir_law_of, .body [.p, .p] .p 4 ir_unit_of, .body [.p, .p, .p] .p 5 ir_without_inverse, .body [.p, .p] .p 7 ir_kind, .body [.p, .p] .p 5 ir_centre, .body [.p, .p] .p 4 ir_commuting_pairs, .body [.p, .p] .p 3 ir_idempotents, .body [.p, .p] .p 4 ir_zero_of, .body [.st, .p] .p 6 ir__law_take, .body [.st] .p 9 ir__law_draw_table, .body [] .p 5 ir__law_sym, .body [.p, .p, .p, .p] .p 9 ir__law_broken, .body [.p, .p, .p] .p 10 ir__law_of, .body [.p, .p] .p 5 ir__law_unit, .body [.p, .p] .p 10 ir__law_kind]
def fnn : List Str := ["times", "sides", "places_of", "tuples", "breaks_at", "law_of", "unit_of", "without_inverse", "kind", "centre", "commuting_pairs", "idempotents", "zero_of", "_law_take", "_law_draw_table", "_law_sym", "_law_broken", "_law_of", "_law_unit", "_law_kind"]
def bls : List Str := ["abs", "all", "any", "int", "len", "list", "max", "min", "range", "sum", "tuple"]
def G : PG0 := ⟨P, fnn, bls⟩
theorem ck_times : chkD G N_times ["table", "size", "one", "other"] [.p, .p, .p, .p] .p ir_times (top 1) = true := by decide +kernel
theorem bo_times : BindsOk "times" (top 1) ["table", "size", "one", "other"] := fun _ _ _ _ _ _ us hl => match us, hl with | [_, _, _, _], _ => rfl
theorem ck_sides : chkD G N_sides ["word", "table", "size", "args"] [.p, .p, .p, .p] .p ir_sides (top 2) = true := by decide +kernel
theorem bo_sides : BindsOk "sides" (top 2) ["word", "table", "size", "args"] := fun _ _ _ _ _ _ us hl => match us, hl with | [_, _, _, _], _ => rfl
theorem ck_places_of : chkD G N_places_of ["word"] [.p] .p ir_places_of (top 3) = true := by decide +kernel
theorem bo_places_of : BindsOk "places_of" (top 3) ["word"] := fun _ _ _ _ _ _ us hl => match us, hl with | [_], _ => rfl
theorem ck_tuples : chkD G N_tuples ["size", "many"] [.p, .p] .p ir_tuples (top 4) = true := by decide +kernel
theorem bo_tuples : BindsOk "tuples" (top 4) ["size", "many"] := fun _ _ _ _ _ _ us hl => match us, hl with | [_, _], _ => rfl
theorem ck_breaks_at : chkD G N_breaks_at ["word", "table", "size", "args"] [.p, .p, .p, .p] .p ir_breaks_at (top 5) = true := by decide +kernel
theorem bo_breaks_at : BindsOk "breaks_at" (top 5) ["word", "table", "size", "args"] := fun _ _ _ _ _ _ us hl => match us, hl with | [_, _, _, _], _ => rfl
theorem ck_law_of : chkD G N_law_of ["word", "table", "size"] [.p, .p, .p] .p ir_law_of (top 6) = true := by decide +kernel
theorem bo_law_of : BindsOk "law_of" (top 6) ["word", "table", "size"] := fun _ _ _ _ _ _ us hl => match us, hl with | [_, _, _], _ => rfl
theorem ck_unit_of : chkD G N_unit_of ["table", "size"] [.p, .p] .p ir_unit_of (top 7) = true := by decide +kernel
theorem bo_unit_of : BindsOk "unit_of" (top 7) ["table", "size"] := fun _ _ _ _ _ _ us hl => match us, hl with | [_, _], _ => rfl
theorem ck_without_inverse : chkD G N_without_inverse ["table", "size", "unit"] [.p, .p, .p] .p ir_without_inverse (top 8) = true := by decide +kernel
theorem bo_without_inverse : BindsOk "without_inverse" (top 8) ["table", "size", "unit"] := fun _ _ _ _ _ _ us hl => match us, hl with | [_, _, _], _ => rfl
theorem ck_kind : chkD G N_kind ["table", "size"] [.p, .p] .p ir_kind (top 9) = true := by decide +kernel
theorem bo_kind : BindsOk "kind" (top 9) ["table", "size"] := fun _ _ _ _ _ _ us hl => match us, hl with | [_, _], _ => rfl
theorem ck_centre : chkD G N_centre ["table", "size"] [.p, .p] .p ir_centre (top 10) = true := by decide +kernel
theorem bo_centre : BindsOk "centre" (top 10) ["table", "size"] := fun _ _ _ _ _ _ us hl => match us, hl with | [_, _], _ => rfl
theorem ck_commuting_pairs : chkD G N_commuting_pairs ["table", "size"] [.p, .p] .p ir_commuting_pairs (top 11) = true := by decide +kernel
theorem bo_commuting_pairs : BindsOk "commuting_pairs" (top 11) ["table", "size"] := fun _ _ _ _ _ _ us hl => match us, hl with | [_, _], _ => rfl
theorem ck_idempotents : chkD G N_idempotents ["table", "size"] [.p, .p] .p ir_idempotents (top 12) = true := by decide +kernel
theorem bo_idempotents : BindsOk "idempotents" (top 12) ["table", "size"] := fun _ _ _ _ _ _ us hl => match us, hl with | [_, _], _ => rfl
theorem ck_zero_of : chkD G N_zero_of ["table", "size"] [.p, .p] .p ir_zero_of (top 13) = true := by decide +kernel
theorem bo_zero_of : BindsOk "zero_of" (top 13) ["table", "size"] := fun _ _ _ _ _ _ us hl => match us, hl with | [_, _], _ => rfl
theorem ck__law_take : chkD G N__law_take ["state", "most"] [.st, .p] .p ir__law_take (top 16) = true := by decide +kernel
theorem bo__law_take : BindsOk "_law_take" (top 16) ["state", "most"] := fun _ _ _ _ _ _ us hl => match us, hl with | [_, _], _ => rfl
theorem ck__law_draw_table : chkD G N__law_draw_table ["state"] [.st] .p ir__law_draw_table (top 17) = true := by decide +kernel
theorem bo__law_draw_table : BindsOk "_law_draw_table" (top 17) ["state"] := fun _ _ _ _ _ _ us hl => match us, hl with | [_], _ => rfl
theorem ck__law_sym : chkD G N__law_sym [] [] .p ir__law_sym (top 18) = true := by decide +kernel
theorem bo__law_sym : BindsOk "_law_sym" (top 18) [] := fun _ _ _ _ _ _ us hl => match us, hl with | [], _ => rfl
theorem ck__law_broken : chkD G N__law_broken ["word", "table", "size", "args"] [.p, .p, .p, .p] .p ir__law_broken (top 19) = true := by decide +kernel
theorem bo__law_broken : BindsOk "_law_broken" (top 19) ["word", "table", "size", "args"] := fun _ _ _ _ _ _ us hl => match us, hl with | [_, _, _, _], _ => rfl
theorem ck__law_of : chkD G N__law_of ["word", "table", "size"] [.p, .p, .p] .p ir__law_of (top 20) = true := by decide +kernel
theorem bo__law_of : BindsOk "_law_of" (top 20) ["word", "table", "size"] := fun _ _ _ _ _ _ us hl => match us, hl with | [_, _, _], _ => rfl
theorem ck__law_unit : chkD G N__law_unit ["table", "size"] [.p, .p] .p ir__law_unit (top 21) = true := by decide +kernel
theorem bo__law_unit : BindsOk "_law_unit" (top 21) ["table", "size"] := fun _ _ _ _ _ _ us hl => match us, hl with | [_, _], _ => rfl
theorem ck__law_kind : chkD G N__law_kind ["table", "size"] [.p, .p] .p ir__law_kind (top 22) = true := by decide +kernel
theorem bo__law_kind : BindsOk "_law_kind" (top 22) ["table", "size"] := fun _ _ _ _ _ _ us hl => match us, hl with | [_, _], _ => rfl
def N_st : List Str := ["script", "cells", "cell"]
theorem ck_st1 : chkSc N_st ["script"] (top 15) = true := by decide +kernel
theorem ck_st2 : chkScr bls N_st (top 15) = true := by decide +kernel
theorem bo_st : BindsOk "_law_state" (top 15) ["script"] := fun _ _ _ _ _ _ us hl => match us, hl with | [_], _ => rfl
theorem ck_law1 : chkSc N_law ["script"] (top 23) = true := by decide +kernel
theorem ck_law2 : chkLaw G N_law "_law_state" ir_law (top 23) = true := by decide +kernel
theorem bo_law : BindsOk "law" (top 23) ["script"] := fun _ _ _ _ _ _ us hl => match us, hl with | [_], _ => rfl
def fnD : List He.DefD := [toD "times" (top 1), toD "sides" (top 2), toD "places_of" (top 3), toD "tuples" (top 4), toD "breaks_at" (top 5), toD "law_of" (top 6), toD "unit_of" (top 7), toD "without_inverse" (top 8), toD "kind" (top 9), toD "centre" (top 10), toD "commuting_pairs" (top 11), toD "idempotents" (top 12), toD "zero_of" (top 13), toD "_law_take" (top 16), toD "_law_draw_table" (top 17), toD "_law_sym" (top 18), toD "_law_broken" (top 19), toD "_law_of" (top 20), toD "_law_unit" (top 21), toD "_law_kind" (top 22), toD "_law_state" (top 15), toD "law" (top 23)]
def faD : List He.Fa := [.glo "times", .glo "sides", .glo "places_of", .glo "tuples", .glo "breaks_at", .glo "law_of", .glo "unit_of", .glo "without_inverse", .glo "kind", .glo "centre", .glo "commuting_pairs", .glo "idempotents", .glo "zero_of", .glo "_law_take", .glo "_law_draw_table", .glo "_law_sym", .glo "_law_broken", .glo "_law_of", .glo "_law_unit", .glo "_law_kind", .glo "_law_state", .glo "law", .free "abs", .free "all", .free "any", .free "int", .free "len", .free "list", .free "max", .free "min", .free "range", .free "sum", .free "tuple"]
section
variable {Q : Program} {w : World} {K : PySem.W.Frag} {mg : Str → Option Value} {h : Heap}
theorem bl_ok (c : He.SaysD faD fnD K) (KX : K.In h) (hG : h.Ns mainGlobals mg) : ∀ x ∈ G.bl, mg x = none := fun x hx => by
  have hx : x ∈ bls := hx
  simp only [bls, List.mem_cons, List.not_mem_nil, or_false] at hx
  rcases hx with rfl | rfl | rfl | rfl | rfl | rfl | rfl | rfl | rfl | rfl | rfl
  · exact He.free_ok KX hG (c.fact 22 rfl)
  · exact He.free_ok KX hG (c.fact 23 rfl)
  · exact He.free_ok KX hG (c.fact 24 rfl)
  · exact He.free_ok KX hG (c.fact 25 rfl)
  · exact He.free_ok KX hG (c.fact 26 rfl)
  · exact He.free_ok KX hG (c.fact 27 rfl)
  · exact He.free_ok KX hG (c.fact 28 rfl)
  · exact He.free_ok KX hG (c.fact 29 rfl)
  · exact He.free_ok KX hG (c.fact 30 rfl)
  · exact He.free_ok KX hG (c.fact 31 rfl)
  · exact He.free_ok KX hG (c.fact 32 rfl)
theorem defs_ok {base : Heap} (c : He.SaysD faD fnD K) (KX : K.In h) (hG : h.Ns mainGlobals mg) : ∀ f fd x, G.P[f]? = some fd → G.fn[f]? = some x → DefOk Q w K mg base G f fd x := by
  intro f fd x h1 h2
  have hb := bl_ok c KX hG
  match f, h1, h2 with
  | 0, h1, h2 => cases (show some _ = some fd from h1); cases (show some _ = some x from h2); exact defOk_mk c KX hG hb (i := 0) (j := 0) rfl rfl rfl rfl bo_times ck_times
  | 1, h1, h2 => cases (show some _ = some fd from h1); cases (show some _ = some x from h2); exact defOk_mk c KX hG hb (i := 1) (j := 1) rfl rfl rfl rfl bo_sides ck_sides
  | 2, h1, h2 => cases (show some _ = some fd from h1); cases (show some _ = some x from h2); exact defOk_mk c KX hG hb (i := 2) (j := 2) rfl rfl rfl rfl bo_places_of ck_places_of
  | 3, h1, h2 => cases (show some _ = some fd from h1); cases (show some _ = some x from h2); exact defOk_mk c KX hG hb (i := 3) (j := 3) rfl rfl rfl rfl bo_tuples ck_tuples
  | 4, h1, h2 => cases (show some _ = some fd from h1); cases (show some _ = some x from h2); exact defOk_mk c KX hG hb (i := 4) (j := 4) rfl rfl rfl rfl bo_breaks_at ck_breaks_at
  | 5, h1, h2 => cases (show some _ = some fd from h1); cases (show some _ = some x from h2); exact defOk_mk c KX hG hb (i := 5) (j := 5) rfl rfl rfl rfl bo_law_of ck_law_of
  | 6, h1, h2 => cases (show some _ = some fd from h1); cases (show some _ = some x from h2); exact defOk_mk c KX hG hb (i := 6) (j := 6) rfl rfl rfl rfl bo_unit_of ck_unit_of
  | 7, h1, h2 => cases (show some _ = some fd from h1); cases (show some _ = some x from h2); exact defOk_mk c KX hG hb (i := 7) (j := 7) rfl rfl rfl rfl bo_without_inverse ck_without_inverse
  | 8, h1, h2 => cases (show some _ = some fd from h1); cases (show some _ = some x from h2); exact defOk_mk c KX hG hb (i := 8) (j := 8) rfl rfl rfl rfl bo_kind ck_kind
  | 9, h1, h2 => cases (show some _ = some fd from h1); cases (show some _ = some x from h2); exact defOk_mk c KX hG hb (i := 9) (j := 9) rfl rfl rfl rfl bo_centre ck_centre
  | 10, h1, h2 => cases (show some _ = some fd from h1); cases (show some _ = some x from h2); exact defOk_mk c KX hG hb (i := 10) (j := 10) rfl rfl rfl rfl bo_commuting_pairs ck_commuting_pairs
  | 11, h1, h2 => cases (show some _ = some fd from h1); cases (show some _ = some x from h2); exact defOk_mk c KX hG hb (i := 11) (j := 11) rfl rfl rfl rfl bo_idempotents ck_idempotents
  | 12, h1, h2 => cases (show some _ = some fd from h1); cases (show some _ = some x from h2); exact defOk_mk c KX hG hb (i := 12) (j := 12) rfl rfl rfl rfl bo_zero_of ck_zero_of
  | 13, h1, h2 => cases (show some _ = some fd from h1); cases (show some _ = some x from h2); exact defOk_mk c KX hG hb (i := 13) (j := 13) rfl rfl rfl rfl bo__law_take ck__law_take
  | 14, h1, h2 => cases (show some _ = some fd from h1); cases (show some _ = some x from h2); exact defOk_mk c KX hG hb (i := 14) (j := 14) rfl rfl rfl rfl bo__law_draw_table ck__law_draw_table
  | 15, h1, h2 => cases (show some _ = some fd from h1); cases (show some _ = some x from h2); exact defOk_mk c KX hG hb (i := 15) (j := 15) rfl rfl rfl rfl bo__law_sym ck__law_sym
  | 16, h1, h2 => cases (show some _ = some fd from h1); cases (show some _ = some x from h2); exact defOk_mk c KX hG hb (i := 16) (j := 16) rfl rfl rfl rfl bo__law_broken ck__law_broken
  | 17, h1, h2 => cases (show some _ = some fd from h1); cases (show some _ = some x from h2); exact defOk_mk c KX hG hb (i := 17) (j := 17) rfl rfl rfl rfl bo__law_of ck__law_of
  | 18, h1, h2 => cases (show some _ = some fd from h1); cases (show some _ = some x from h2); exact defOk_mk c KX hG hb (i := 18) (j := 18) rfl rfl rfl rfl bo__law_unit ck__law_unit
  | 19, h1, h2 => cases (show some _ = some fd from h1); cases (show some _ = some x from h2); exact defOk_mk c KX hG hb (i := 19) (j := 19) rfl rfl rfl rfl bo__law_kind ck__law_kind
  | k + 20, h1, h2 => cases (show none = some fd from h1)
theorem facts {f : Addr} {n : Nat} (c : He.SaysD faD fnD K) (KX : K.In h) (hG : h.Ns mainGlobals mg) (hfa : mg "law" = some (.ref f)) (run : ∀ ns : List Int, ns.length ≤ 63 → ∃ τ', execSs (callF P (n + 1)) ir_law (gaL N_law) (some (tape0 ns)) = some (.rt (.bool true) τ')) :
    ∃ fd : FuncData, (∀ (s : Shared) (v : Value), BindsTo s fd ⟨[v], []⟩ [("script", v)]) ∧ ∀ base : Heap, K.In base → base.Ns mainGlobals mg → FnOk Q w K mg base CX0 (n + 2) f fd ["script"] (spL K) := by
  obtain ⟨fdL, FL⟩ := def_at c 21 (x := "law") (st := top 23) rfl
  obtain ⟨fdS, FS⟩ := def_at c 20 (x := "_law_state") (st := top 15) rfl
  have e := hfa.symm.trans (He.glo_ok KX hG (c.fact 21 (f := .glo "law") rfl))
  cases e
  have b := FL.bindsA (ps := ["script"]) bo_law
  refine ⟨fdL, fun s v => b s [v] rfl, fun base _ _ => ?_⟩
  have hb := bl_ok c KX hG
  exact law_ok (G := G) (y := "_law_state") hb (calls_all (defs_ok c KX hG) (n + 1)) FL (state_ok (n := n) (bl := bls) hb FS ck_st1 ck_st2) (He.glo_ok KX hG (c.fact 20 (f := .glo "_law_state") rfl)) FS.kp (FS.bindsN bo_st) ck_law1 ck_law2 run
end
abbrev R : PySem.W.OpenRow := PySem.W.OpenLaw.row PySem.Challenge.rw_tablewright_k69_whole_kinds
abbrev hk : PySem.W.Hook := He.hookD 4 faD fnD
def ob (s : PySem.W.SharedT) : He.AlD := He.obsDG 4 faD fnD (HandSHeadRun.getT s)
theorem ob_eq (s : PySem.W.SharedT) : ob s = hk.obs s.abs := He.obsDG_eq (HandSHeadRun.getT_eq s)
def loose : List Str := ["times", "sides", "places_of", "tuples", "breaks_at", "law_of", "unit_of", "without_inverse", "kind", "centre", "commuting_pairs", "idempotents", "zero_of", "_law_take", "_law_draw_table", "_law_sym", "_law_broken", "_law_of", "_law_unit", "_law_kind", "_law_state"]
theorem run (w : World) : HandSHeadRun.RunEq R (PySem.W.view R.prog [23]) hk ob 4000 loose w := by
  intro os
  kernel_rfl
end K69
set_option Elab.async false
set_option linter.all false
set_option maxRecDepth 100000
set_option maxHeartbeats 1000000
namespace K69
open PySem Ev
/-- a table of one operation on n elements -/
structure Val (n : Nat) (tb : List Nat) : Prop where
  pos : 1 ≤ n
  small : n ≤ 6
  len : tb.length = n * n
  lt : ∀ x ∈ tb, x < n
def tT (tb : List Nat) : D := .tuple (tb.map nI)
def o (tb : List Nat) (n a b : Nat) : Nat := tb.getD (a * n + b) 0
theorem ix_lt {n a b : Nat} (ha : a < n) (hb : b < n) : a * n + b < n * n := by
  have h1 : (a + 1) * n ≤ n * n := Nat.mul_le_mul_right n ha
  rw [Nat.add_mul, Nat.one_mul] at h1
  omega
theorem at_tb {tb : List Nat} {i : Nat} (h : i < tb.length) : opIx (tT tb) (nI i) = some (nI (tb.getD i 0)) := by
  unfold tT nI
  simp only [opIx]
  rw [L2.atI_nat (j := i) (v := nI tb[i]) (by rw [List.getElem?_map, List.getElem?_eq_getElem h]; rfl)]
  rw [List.getD_eq_getElem?_getD, List.getElem?_eq_getElem h]
  rfl
theorem o_lt {n : Nat} {tb : List Nat} (V : Val n tb) {a b : Nat} (ha : a < n) (hb : b < n) : o tb n a b < n := by
  unfold o
  have h : a * n + b < tb.length := by rw [V.len]; exact ix_lt ha hb
  rw [List.getD_eq_getElem?_getD, List.getElem?_eq_getElem h]
  exact V.lt _ (List.getElem_mem h)
theorem at_o {n : Nat} {tb : List Nat} (V : Val n tb) {a b : Nat} (ha : a < n) (hb : b < n) : opIx (tT tb) (nI (a * n + b)) = some (nI (o tb n a b)) :=
  at_tb (by rw [V.len]; exact ix_lt ha hb)
theorem n1000 {n : Nat} {tb : List Nat} (V : Val n tb) : n ≤ 1000 := Nat.le_trans V.small (by decide)
theorem nmil {n : Nat} {tb : List Nat} (V : Val n tb) : n ≤ 1000000 := Nat.le_trans V.small (by decide)
/-! ### the defs as runs -/
theorem c0 (k : Nat) (ds : List D) (τ : Tape) : callF P (k + 1) 0 ds τ = runB (callF P k) 4 ir_times ds τ := callF_body rfl k ds τ
theorem c1 (k : Nat) (ds : List D) (τ : Tape) : callF P (k + 1) 1 ds τ = runB (callF P k) 12 ir_sides ds τ := callF_body rfl k ds τ
theorem c2 (k : Nat) (ds : List D) (τ : Tape) : callF P (k + 1) 2 ds τ = runB (callF P k) 1 ir_places_of ds τ := callF_body rfl k ds τ
theorem c3 (k : Nat) (ds : List D) (τ : Tape) : callF P (k + 1) 3 ds τ = runB (callF P k) 6 ir_tuples ds τ := callF_body rfl k ds τ
theorem c4 (k : Nat) (ds : List D) (τ : Tape) : callF P (k + 1) 4 ds τ = runB (callF P k) 10 ir_breaks_at ds τ := callF_body rfl k ds τ
theorem c5 (k : Nat) (ds : List D) (τ : Tape) : callF P (k + 1) 5 ds τ = runB (callF P k) 4 ir_law_of ds τ := callF_body rfl k ds τ
theorem c6 (k : Nat) (ds : List D) (τ : Tape) : callF P (k + 1) 6 ds τ = runB (callF P k) 4 ir_unit_of ds τ := callF_body rfl k ds τ
theorem c7 (k : Nat) (ds : List D) (τ : Tape) : callF P (k + 1) 7 ds τ = runB (callF P k) 5 ir_without_inverse ds τ := callF_body rfl k ds τ
theorem c8 (k : Nat) (ds : List D) (τ : Tape) : callF P (k + 1) 8 ds τ = runB (callF P k) 7 ir_kind ds τ := callF_body rfl k ds τ
theorem c9 (k : Nat) (ds : List D) (τ : Tape) : callF P (k + 1) 9 ds τ = runB (callF P k) 5 ir_centre ds τ := callF_body rfl k ds τ
theorem c10 (k : Nat) (ds : List D) (τ : Tape) : callF P (k + 1) 10 ds τ = runB (callF P k) 4 ir_commuting_pairs ds τ := callF_body rfl k ds τ
theorem c11 (k : Nat) (ds : List D) (τ : Tape) : callF P (k + 1) 11 ds τ = runB (callF P k) 3 ir_idempotents ds τ := callF_body rfl k ds τ
theorem c12 (k : Nat) (ds : List D) (τ : Tape) : callF P (k + 1) 12 ds τ = runB (callF P k) 4 ir_zero_of ds τ := callF_body rfl k ds τ
theorem c13 (k : Nat) (ds : List D) (τ : Tape) : callF P (k + 1) 13 ds τ = runB (callF P k) 6 ir__law_take ds τ := callF_body rfl k ds τ
theorem c14 (k : Nat) (ds : List D) (τ : Tape) : callF P (k + 1) 14 ds τ = runB (callF P k) 9 ir__law_draw_table ds τ := callF_body rfl k ds τ
theorem c15 (k : Nat) (ds : List D) (τ : Tape) : callF P (k + 1) 15 ds τ = runB (callF P k) 5 ir__law_sym ds τ := callF_body rfl k ds τ
theorem c16 (k : Nat) (ds : List D) (τ : Tape) : callF P (k + 1) 16 ds τ = runB (callF P k) 9 ir__law_broken ds τ := callF_body rfl k ds τ
theorem c17 (k : Nat) (ds : List D) (τ : Tape) : callF P (k + 1) 17 ds τ = runB (callF P k) 10 ir__law_of ds τ := callF_body rfl k ds τ
theorem c18 (k : Nat) (ds : List D) (τ : Tape) : callF P (k + 1) 18 ds τ = runB (callF P k) 5 ir__law_unit ds τ := callF_body rfl k ds τ
theorem c19 (k : Nat) (ds : List D) (τ : Tape) : callF P (k + 1) 19 ds τ = runB (callF P k) 10 ir__law_kind ds τ := callF_body rfl k ds τ
theorem times_ok (k : Nat) {n : Nat} {tb : List Nat} (V : Val n tb) {a b : Nat} (ha : a < n) (hb : b < n) (τ : Tape) : callF P (k + 1) 0 [tT tb, nI n, nI a, nI b] τ = some (nI (o tb n a b), τ) := by
  simp only [c0, ir_times, runB_eq, x_nil, x_cons, x_set, x_own, x_par, x_ret, x_ite, x_frz, e_v, e_c, e_yes, e_tup, e_lst, e_bin, e_cmp, e_isN, e_notN, e_and, e_or, e_not, e_ite, e_ix, e_slT, e_b1, e_b2, e_call, e_nil, e_cons, lft_some, un1_some, bi2_some, tB1_some, pk_t, pk_f, anK_t, anK_f, orK_t, orK_f, notK_some, csK_some, csM_some, mk1_some, clK_some, thS_nx, thS_rt, stG_some, nxT_some, rtG_some, bG_n, bG_t, bG_l, bsG_some, bs_nil, bs_cons, pr2_some, pr1_some, enR_rt, enR_nx, rd, List.map_cons, List.map_nil, List.length_cons, List.length_nil, Nat.reduceAdd, Nat.reduceSub, List.replicate, List.cons_append, List.nil_append, List.set_cons_zero, List.set_cons_succ, List.getD_cons_zero, List.getD_cons_succ, mul_n _ _ (n1000 V), add_n, at_o V ha hb]
end K69
set_option Elab.async false
set_option linter.all false
set_option maxRecDepth 100000
set_option maxHeartbeats 2000000
namespace K69
open PySem Ev
theorem s_assoc_assoc : (("assoc" : Str) == ("assoc" : Str)) = true := by decide +kernel
theorem s_assoc_comm : (("assoc" : Str) == ("comm" : Str)) = false := by decide +kernel
theorem s_assoc_idem : (("assoc" : Str) == ("idem" : Str)) = false := by decide +kernel
theorem s_assoc_medial : (("assoc" : Str) == ("medial" : Str)) = false := by decide +kernel
theorem s_assoc_leftdist : (("assoc" : Str) == ("leftdist" : Str)) = false := by decide +kernel
theorem s_assoc_cancel : (("assoc" : Str) == ("cancel" : Str)) = false := by decide +kernel
theorem s_assoc_divide : (("assoc" : Str) == ("divide" : Str)) = false := by decide +kernel
theorem s_comm_assoc : (("comm" : Str) == ("assoc" : Str)) = false := by decide +kernel
theorem s_comm_comm : (("comm" : Str) == ("comm" : Str)) = true := by decide +kernel
theorem s_comm_idem : (("comm" : Str) == ("idem" : Str)) = false := by decide +kernel
theorem s_comm_medial : (("comm" : Str) == ("medial" : Str)) = false := by decide +kernel
theorem s_comm_leftdist : (("comm" : Str) == ("leftdist" : Str)) = false := by decide +kernel
theorem s_comm_cancel : (("comm" : Str) == ("cancel" : Str)) = false := by decide +kernel
theorem s_comm_divide : (("comm" : Str) == ("divide" : Str)) = false := by decide +kernel
theorem s_idem_assoc : (("idem" : Str) == ("assoc" : Str)) = false := by decide +kernel
theorem s_idem_comm : (("idem" : Str) == ("comm" : Str)) = false := by decide +kernel
theorem s_idem_idem : (("idem" : Str) == ("idem" : Str)) = true := by decide +kernel
theorem s_idem_medial : (("idem" : Str) == ("medial" : Str)) = false := by decide +kernel
theorem s_idem_leftdist : (("idem" : Str) == ("leftdist" : Str)) = false := by decide +kernel
theorem s_idem_cancel : (("idem" : Str) == ("cancel" : Str)) = false := by decide +kernel
theorem s_idem_divide : (("idem" : Str) == ("divide" : Str)) = false := by decide +kernel
theorem s_medial_assoc : (("medial" : Str) == ("assoc" : Str)) = false := by decide +kernel
theorem s_medial_comm : (("medial" : Str) == ("comm" : Str)) = false := by decide +kernel
theorem s_medial_idem : (("medial" : Str) == ("idem" : Str)) = false := by decide +kernel
theorem s_medial_medial : (("medial" : Str) == ("medial" : Str)) = true := by decide +kernel
theorem s_medial_leftdist : (("medial" : Str) == ("leftdist" : Str)) = false := by decide +kernel
theorem s_medial_cancel : (("medial" : Str) == ("cancel" : Str)) = false := by decide +kernel
theorem s_medial_divide : (("medial" : Str) == ("divide" : Str)) = false := by decide +kernel
theorem s_leftdist_assoc : (("leftdist" : Str) == ("assoc" : Str)) = false := by decide +kernel
theorem s_leftdist_comm : (("leftdist" : Str) == ("comm" : Str)) = false := by decide +kernel
theorem s_leftdist_idem : (("leftdist" : Str) == ("idem" : Str)) = false := by decide +kernel
theorem s_leftdist_medial : (("leftdist" : Str) == ("medial" : Str)) = false := by decide +kernel
theorem s_leftdist_leftdist : (("leftdist" : Str) == ("leftdist" : Str)) = true := by decide +kernel
theorem s_leftdist_cancel : (("leftdist" : Str) == ("cancel" : Str)) = false := by decide +kernel
theorem s_leftdist_divide : (("leftdist" : Str) == ("divide" : Str)) = false := by decide +kernel
theorem s_cancel_assoc : (("cancel" : Str) == ("assoc" : Str)) = false := by decide +kernel
theorem s_cancel_comm : (("cancel" : Str) == ("comm" : Str)) = false := by decide +kernel
theorem s_cancel_idem : (("cancel" : Str) == ("idem" : Str)) = false := by decide +kernel
theorem s_cancel_medial : (("cancel" : Str) == ("medial" : Str)) = false := by decide +kernel
theorem s_cancel_leftdist : (("cancel" : Str) == ("leftdist" : Str)) = false := by decide +kernel
theorem s_cancel_cancel : (("cancel" : Str) == ("cancel" : Str)) = true := by decide +kernel
theorem s_cancel_divide : (("cancel" : Str) == ("divide" : Str)) = false := by decide +kernel
theorem s_divide_assoc : (("divide" : Str) == ("assoc" : Str)) = false := by decide +kernel
theorem s_divide_comm : (("divide" : Str) == ("comm" : Str)) = false := by decide +kernel
theorem s_divide_idem : (("divide" : Str) == ("idem" : Str)) = false := by decide +kernel
theorem s_divide_medial : (("divide" : Str) == ("medial" : Str)) = false := by decide +kernel
theorem s_divide_leftdist : (("divide" : Str) == ("leftdist" : Str)) = false := by decide +kernel
theorem s_divide_cancel : (("divide" : Str) == ("cancel" : Str)) = false := by decide +kernel
theorem s_divide_divide : (("divide" : Str) == ("divide" : Str)) = true := by decide +kernel
theorem z0 : PyData.int 0 = nI 0 := rfl
theorem cat1 (a z : D) : opBin .add (.list [a]) (.list [z, z, z, z]) = some (.list [a, z, z, z, z]) := rfl
theorem cat2 (a b z : D) : opBin .add (.list [a, b]) (.list [z, z, z, z]) = some (.list [a, b, z, z, z, z]) := rfl
theorem cat3 (a b c z : D) : opBin .add (.list [a, b, c]) (.list [z, z, z, z]) = some (.list [a, b, c, z, z, z, z]) := rfl
theorem cat4 (a b c d z : D) : opBin .add (.list [a, b, c, d]) (.list [z, z, z, z]) = some (.list [a, b, c, d, z, z, z, z]) := rfl
theorem cut1 (a z : D) : opSl (.list [a, z, z, z, z]) none (some 4) = some (.list [a, z, z, z]) := rfl
theorem cut2 (a b z : D) : opSl (.list [a, b, z, z, z, z]) none (some 4) = some (.list [a, b, z, z]) := rfl
theorem cut3 (a b c z : D) : opSl (.list [a, b, c, z, z, z, z]) none (some 4) = some (.list [a, b, c, z]) := rfl
theorem cut4 (a b c d z : D) : opSl (.list [a, b, c, d, z, z, z, z]) none (some 4) = some (.list [a, b, c, d]) := rfl
theorem pos' {n : Nat} {tb : List Nat} (V : Val n tb) : 0 < n := V.pos
theorem sides_idem (k : Nat) {n : Nat} {tb : List Nat} (V : Val n tb) {a : Nat} (ha : a < n) (τ : Tape) : callF P (k + 2) 1 [.str "idem", tT tb, nI n, .tuple [nI a]] τ = some (.tuple [nI (o tb n a a), nI (a)], τ) := by
  simp only [c1, ir_sides, runB_eq, x_nil, x_cons, x_set, x_own, x_par, x_ret, x_ite, x_frz, e_v, e_c, e_yes, e_tup, e_lst, e_bin, e_cmp, e_isN, e_notN, e_and, e_or, e_not, e_ite, e_ix, e_slT, e_b1, e_b2, e_call, e_nil, e_cons, lft_some, un1_some, bi2_some, tB1_some, pk_t, pk_f, anK_t, anK_f, orK_t, orK_f, notK_some, csK_some, csM_some, mk1_some, clK_some, thS_nx, thS_rt, stG_some, nxT_some, rtG_some, bG_n, bG_t, bG_l, bsG_some, bs_nil, bs_cons, pr2_some, pr1_some, enR_rt, enR_nx, rd, List.map_cons, List.map_nil, List.length_cons, List.length_nil, Nat.reduceAdd, Nat.reduceSub, List.replicate, List.cons_append, List.nil_append, List.set_cons_zero, List.set_cons_succ, List.getD_cons_zero, List.getD_cons_succ, cB_eq_s, s_idem_assoc, s_idem_comm, s_idem_idem, s_idem_medial, s_idem_leftdist, s_idem_cancel, s_idem_divide, opB1, bLst, z0, intOf, Option.bind_some, cat1, cut1, times_ok k V, o_lt V, pos' V, ha]
theorem brk_idem (k : Nat) {n : Nat} {tb : List Nat} (V : Val n tb) {a : Nat} (ha : a < n) (τ : Tape) : callF P (k + 3) 4 [.str "idem", tT tb, nI n, .tuple [nI a]] τ = some (.bool (!decide (o tb n a a = a)), τ) := by
  simp only [c4, ir_breaks_at, runB_eq, x_nil, x_cons, x_set, x_own, x_par, x_ret, x_ite, x_frz, e_v, e_c, e_yes, e_tup, e_lst, e_bin, e_cmp, e_isN, e_notN, e_and, e_or, e_not, e_ite, e_ix, e_slT, e_b1, e_b2, e_call, e_nil, e_cons, lft_some, un1_some, bi2_some, tB1_some, pk_t, pk_f, anK_t, anK_f, orK_t, orK_f, notK_some, csK_some, csM_some, mk1_some, clK_some, thS_nx, thS_rt, stG_some, nxT_some, rtG_some, bG_n, bG_t, bG_l, bsG_some, bs_nil, bs_cons, pr2_some, pr1_some, enR_rt, enR_nx, rd, List.map_cons, List.map_nil, List.length_cons, List.length_nil, Nat.reduceAdd, Nat.reduceSub, List.replicate, List.cons_append, List.nil_append, List.set_cons_zero, List.set_cons_succ, List.getD_cons_zero, List.getD_cons_succ, cB_eq_s, s_idem_assoc, s_idem_comm, s_idem_idem, s_idem_medial, s_idem_leftdist, s_idem_cancel, s_idem_divide, sides_idem k V ha, cB_ne_n]
theorem sides_comm (k : Nat) {n : Nat} {tb : List Nat} (V : Val n tb) {a b : Nat} (ha : a < n) (hb : b < n) (τ : Tape) : callF P (k + 2) 1 [.str "comm", tT tb, nI n, .tuple [nI a, nI b]] τ = some (.tuple [nI (o tb n a b), nI (o tb n b a)], τ) := by
  simp only [c1, ir_sides, runB_eq, x_nil, x_cons, x_set, x_own, x_par, x_ret, x_ite, x_frz, e_v, e_c, e_yes, e_tup, e_lst, e_bin, e_cmp, e_isN, e_notN, e_and, e_or, e_not, e_ite, e_ix, e_slT, e_b1, e_b2, e_call, e_nil, e_cons, lft_some, un1_some, bi2_some, tB1_some, pk_t, pk_f, anK_t, anK_f, orK_t, orK_f, notK_some, csK_some, csM_some, mk1_some, clK_some, thS_nx, thS_rt, stG_some, nxT_some, rtG_some, bG_n, bG_t, bG_l, bsG_some, bs_nil, bs_cons, pr2_some, pr1_some, enR_rt, enR_nx, rd, List.map_cons, List.map_nil, List.length_cons, List.length_nil, Nat.reduceAdd, Nat.reduceSub, List.replicate, List.cons_append, List.nil_append, List.set_cons_zero, List.set_cons_succ, List.getD_cons_zero, List.getD_cons_succ, cB_eq_s, s_comm_assoc, s_comm_comm, s_comm_idem, s_comm_medial, s_comm_leftdist, s_comm_cancel, s_comm_divide, opB1, bLst, z0, intOf, Option.bind_some, cat2, cut2, times_ok k V, o_lt V, pos' V, ha, hb]
theorem brk_comm (k : Nat) {n : Nat} {tb : List Nat} (V : Val n tb) {a b : Nat} (ha : a < n) (hb : b < n) (τ : Tape) : callF P (k + 3) 4 [.str "comm", tT tb, nI n, .tuple [nI a, nI b]] τ = some (.bool (!decide (o tb n a b = o tb n b a)), τ) := by
  simp only [c4, ir_breaks_at, runB_eq, x_nil, x_cons, x_set, x_own, x_par, x_ret, x_ite, x_frz, e_v, e_c, e_yes, e_tup, e_lst, e_bin, e_cmp, e_isN, e_notN, e_and, e_or, e_not, e_ite, e_ix, e_slT, e_b1, e_b2, e_call, e_nil, e_cons, lft_some, un1_some, bi2_some, tB1_some, pk_t, pk_f, anK_t, anK_f, orK_t, orK_f, notK_some, csK_some, csM_some, mk1_some, clK_some, thS_nx, thS_rt, stG_some, nxT_some, rtG_some, bG_n, bG_t, bG_l, bsG_some, bs_nil, bs_cons, pr2_some, pr1_some, enR_rt, enR_nx, rd, List.map_cons, List.map_nil, List.length_cons, List.length_nil, Nat.reduceAdd, Nat.reduceSub, List.replicate, List.cons_append, List.nil_append, List.set_cons_zero, List.set_cons_succ, List.getD_cons_zero, List.getD_cons_succ, cB_eq_s, s_comm_assoc, s_comm_comm, s_comm_idem, s_comm_medial, s_comm_leftdist, s_comm_cancel, s_comm_divide, sides_comm k V ha hb, cB_ne_n]
theorem sides_assoc (k : Nat) {n : Nat} {tb : List Nat} (V : Val n tb) {a b c : Nat} (ha : a < n) (hb : b < n) (hc : c < n) (τ : Tape) : callF P (k + 2) 1 [.str "assoc", tT tb, nI n, .tuple [nI a, nI b, nI c]] τ = some (.tuple [nI (o tb n (o tb n a b) c), nI (o tb n a (o tb n b c))], τ) := by
  simp only [c1, ir_sides, runB_eq, x_nil, x_cons, x_set, x_own, x_par, x_ret, x_ite, x_frz, e_v, e_c, e_yes, e_tup, e_lst, e_bin, e_cmp, e_isN, e_notN, e_and, e_or, e_not, e_ite, e_ix, e_slT, e_b1, e_b2, e_call, e_nil, e_cons, lft_some, un1_some, bi2_some, tB1_some, pk_t, pk_f, anK_t, anK_f, orK_t, orK_f, notK_some, csK_some, csM_some, mk1_some, clK_some, thS_nx, thS_rt, stG_some, nxT_some, rtG_some, bG_n, bG_t, bG_l, bsG_some, bs_nil, bs_cons, pr2_some, pr1_some, enR_rt, enR_nx, rd, List.map_cons, List.map_nil, List.length_cons, List.length_nil, Nat.reduceAdd, Nat.reduceSub, List.replicate, List.cons_append, List.nil_append, List.set_cons_zero, List.set_cons_succ, List.getD_cons_zero, List.getD_cons_succ, cB_eq_s, s_assoc_assoc, s_assoc_comm, s_assoc_idem, s_assoc_medial, s_assoc_leftdist, s_assoc_cancel, s_assoc_divide, opB1, bLst, z0, intOf, Option.bind_some, cat3, cut3, times_ok k V, o_lt V, pos' V, ha, hb, hc]
theorem brk_assoc (k : Nat) {n : Nat} {tb : List Nat} (V : Val n tb) {a b c : Nat} (ha : a < n) (hb : b < n) (hc : c < n) (τ : Tape) : callF P (k + 3) 4 [.str "assoc", tT tb, nI n, .tuple [nI a, nI b, nI c]] τ = some (.bool (!decide (o tb n (o tb n a b) c = o tb n a (o tb n b c))), τ) := by
  simp only [c4, ir_breaks_at, runB_eq, x_nil, x_cons, x_set, x_own, x_par, x_ret, x_ite, x_frz, e_v, e_c, e_yes, e_tup, e_lst, e_bin, e_cmp, e_isN, e_notN, e_and, e_or, e_not, e_ite, e_ix, e_slT, e_b1, e_b2, e_call, e_nil, e_cons, lft_some, un1_some, bi2_some, tB1_some, pk_t, pk_f, anK_t, anK_f, orK_t, orK_f, notK_some, csK_some, csM_some, mk1_some, clK_some, thS_nx, thS_rt, stG_some, nxT_some, rtG_some, bG_n, bG_t, bG_l, bsG_some, bs_nil, bs_cons, pr2_some, pr1_some, enR_rt, enR_nx, rd, List.map_cons, List.map_nil, List.length_cons, List.length_nil, Nat.reduceAdd, Nat.reduceSub, List.replicate, List.cons_append, List.nil_append, List.set_cons_zero, List.set_cons_succ, List.getD_cons_zero, List.getD_cons_succ, cB_eq_s, s_assoc_assoc, s_assoc_comm, s_assoc_idem, s_assoc_medial, s_assoc_leftdist, s_assoc_cancel, s_assoc_divide, sides_assoc k V ha hb hc, cB_ne_n]
theorem sides_medial (k : Nat) {n : Nat} {tb : List Nat} (V : Val n tb) {a b c d : Nat} (ha : a < n) (hb : b < n) (hc : c < n) (hd : d < n) (τ : Tape) : callF P (k + 2) 1 [.str "medial", tT tb, nI n, .tuple [nI a, nI b, nI c, nI d]] τ = some (.tuple [nI (o tb n (o tb n a b) (o tb n c d)), nI (o tb n (o tb n a c) (o tb n b d))], τ) := by
  simp only [c1, ir_sides, runB_eq, x_nil, x_cons, x_set, x_own, x_par, x_ret, x_ite, x_frz, e_v, e_c, e_yes, e_tup, e_lst, e_bin, e_cmp, e_isN, e_notN, e_and, e_or, e_not, e_ite, e_ix, e_slT, e_b1, e_b2, e_call, e_nil, e_cons, lft_some, un1_some, bi2_some, tB1_some, pk_t, pk_f, anK_t, anK_f, orK_t, orK_f, notK_some, csK_some, csM_some, mk1_some, clK_some, thS_nx, thS_rt, stG_some, nxT_some, rtG_some, bG_n, bG_t, bG_l, bsG_some, bs_nil, bs_cons, pr2_some, pr1_some, enR_rt, enR_nx, rd, List.map_cons, List.map_nil, List.length_cons, List.length_nil, Nat.reduceAdd, Nat.reduceSub, List.replicate, List.cons_append, List.nil_append, List.set_cons_zero, List.set_cons_succ, List.getD_cons_zero, List.getD_cons_succ, cB_eq_s, s_medial_assoc, s_medial_comm, s_medial_idem, s_medial_medial, s_medial_leftdist, s_medial_cancel, s_medial_divide, opB1, bLst, z0, intOf, Option.bind_some, cat4, cut4, times_ok k V, o_lt V, pos' V, ha, hb, hc, hd]
theorem brk_medial (k : Nat) {n : Nat} {tb : List Nat} (V : Val n tb) {a b c d : Nat} (ha : a < n) (hb : b < n) (hc : c < n) (hd : d < n) (τ : Tape) : callF P (k + 3) 4 [.str "medial", tT tb, nI n, .tuple [nI a, nI b, nI c, nI d]] τ = some (.bool (!decide (o tb n (o tb n a b) (o tb n c d) = o tb n (o tb n a c) (o tb n b d))), τ) := by
  simp only [c4, ir_breaks_at, runB_eq, x_nil, x_cons, x_set, x_own, x_par, x_ret, x_ite, x_frz, e_v, e_c, e_yes, e_tup, e_lst, e_bin, e_cmp, e_isN, e_notN, e_and, e_or, e_not, e_ite, e_ix, e_slT, e_b1, e_b2, e_call, e_nil, e_cons, lft_some, un1_some, bi2_some, tB1_some, pk_t, pk_f, anK_t, anK_f, orK_t, orK_f, notK_some, csK_some, csM_some, mk1_some, clK_some, thS_nx, thS_rt, stG_some, nxT_some, rtG_some, bG_n, bG_t, bG_l, bsG_some, bs_nil, bs_cons, pr2_some, pr1_some, enR_rt, enR_nx, rd, List.map_cons, List.map_nil, List.length_cons, List.length_nil, Nat.reduceAdd, Nat.reduceSub, List.replicate, List.cons_append, List.nil_append, List.set_cons_zero, List.set_cons_succ, List.getD_cons_zero, List.getD_cons_succ, cB_eq_s, s_medial_assoc, s_medial_comm, s_medial_idem, s_medial_medial, s_medial_leftdist, s_medial_cancel, s_medial_divide, sides_medial k V ha hb hc hd, cB_ne_n]
theorem sides_leftdist (k : Nat) {n : Nat} {tb : List Nat} (V : Val n tb) {a b c : Nat} (ha : a < n) (hb : b < n) (hc : c < n) (τ : Tape) : callF P (k + 2) 1 [.str "leftdist", tT tb, nI n, .tuple [nI a, nI b, nI c]] τ = some (.tuple [nI (o tb n a (o tb n b c)), nI (o tb n (o tb n a b) (o tb n a c))], τ) := by
  simp only [c1, ir_sides, runB_eq, x_nil, x_cons, x_set, x_own, x_par, x_ret, x_ite, x_frz, e_v, e_c, e_yes, e_tup, e_lst, e_bin, e_cmp, e_isN, e_notN, e_and, e_or, e_not, e_ite, e_ix, e_slT, e_b1, e_b2, e_call, e_nil, e_cons, lft_some, un1_some, bi2_some, tB1_some, pk_t, pk_f, anK_t, anK_f, orK_t, orK_f, notK_some, csK_some, csM_some, mk1_some, clK_some, thS_nx, thS_rt, stG_some, nxT_some, rtG_some, bG_n, bG_t, bG_l, bsG_some, bs_nil, bs_cons, pr2_some, pr1_some, enR_rt, enR_nx, rd, List.map_cons, List.map_nil, List.length_cons, List.length_nil, Nat.reduceAdd, Nat.reduceSub, List.replicate, List.cons_append, List.nil_append, List.set_cons_zero, List.set_cons_succ, List.getD_cons_zero, List.getD_cons_succ, cB_eq_s, s_leftdist_assoc, s_leftdist_comm, s_leftdist_idem, s_leftdist_medial, s_leftdist_leftdist, s_leftdist_cancel, s_leftdist_divide, opB1, bLst, z0, intOf, Option.bind_some, cat3, cut3, times_ok k V, o_lt V, pos' V, ha, hb, hc]
theorem brk_leftdist (k : Nat) {n : Nat} {tb : List Nat} (V : Val n tb) {a b c : Nat} (ha : a < n) (hb : b < n) (hc : c < n) (τ : Tape) : callF P (k + 3) 4 [.str "leftdist", tT tb, nI n, .tuple [nI a, nI b, nI c]] τ = some (.bool (!decide (o tb n a (o tb n b c) = o tb n (o tb n a b) (o tb n a c))), τ) := by
  simp only [c4, ir_breaks_at, runB_eq, x_nil, x_cons, x_set, x_own, x_par, x_ret, x_ite, x_frz, e_v, e_c, e_yes, e_tup, e_lst, e_bin, e_cmp, e_isN, e_notN, e_and, e_or, e_not, e_ite, e_ix, e_slT, e_b1, e_b2, e_call, e_nil, e_cons, lft_some, un1_some, bi2_some, tB1_some, pk_t, pk_f, anK_t, anK_f, orK_t, orK_f, notK_some, csK_some, csM_some, mk1_some, clK_some, thS_nx, thS_rt, stG_some, nxT_some, rtG_some, bG_n, bG_t, bG_l, bsG_some, bs_nil, bs_cons, pr2_some, pr1_some, enR_rt, enR_nx, rd, List.map_cons, List.map_nil, List.length_cons, List.length_nil, Nat.reduceAdd, Nat.reduceSub, List.replicate, List.cons_append, List.nil_append, List.set_cons_zero, List.set_cons_succ, List.getD_cons_zero, List.getD_cons_succ, cB_eq_s, s_leftdist_assoc, s_leftdist_comm, s_leftdist_idem, s_leftdist_medial, s_leftdist_leftdist, s_leftdist_cancel, s_leftdist_divide, sides_leftdist k V ha hb hc, cB_ne_n]
end K69
set_option Elab.async false
set_option linter.all false
set_option maxRecDepth 100000
set_option maxHeartbeats 2000000
namespace K69
open PySem Ev
theorem pd1 (a : D) (τ : Tape) : un1 (un1 (un1 (lft (opB1 .len (.tuple [a])) τ) (opBin .sub (.int 4))) (opBin .mul (.tuple [.int 0]))) (opBin .add (.tuple [a])) = some (.tuple [a, nI 0, nI 0, nI 0], τ) := rfl
theorem pd2 (a b : D) (τ : Tape) : un1 (un1 (un1 (lft (opB1 .len (.tuple [a, b])) τ) (opBin .sub (.int 4))) (opBin .mul (.tuple [.int 0]))) (opBin .add (.tuple [a, b])) = some (.tuple [a, b, nI 0, nI 0], τ) := rfl
theorem pd3 (a b c : D) (τ : Tape) : un1 (un1 (un1 (lft (opB1 .len (.tuple [a, b, c])) τ) (opBin .sub (.int 4))) (opBin .mul (.tuple [.int 0]))) (opBin .add (.tuple [a, b, c])) = some (.tuple [a, b, c, nI 0], τ) := rfl
theorem pd4 (a b c d : D) (τ : Tape) : un1 (un1 (un1 (lft (opB1 .len (.tuple [a, b, c, d])) τ) (opBin .sub (.int 4))) (opBin .mul (.tuple [.int 0]))) (opBin .add (.tuple [a, b, c, d])) = some (.tuple [a, b, c, d], τ) := rfl
theorem lb_idem (k : Nat) {n : Nat} {tb : List Nat} (V : Val n tb) {a : Nat} (ha : a < n) (τ : Tape) : callF P (k + 1) 16 [.str "idem", tT tb, nI n, .tuple [nI a]] τ = some (.bool (!decide (o tb n a a = a)), τ) := by
  simp only [c16, ir__law_broken, runB_eq, x_nil, x_cons, x_set, x_own, x_par, x_ret, x_ite, x_frz, e_v, e_c, e_yes, e_tup, e_lst, e_bin, e_cmp, e_isN, e_notN, e_and, e_or, e_not, e_ite, e_ix, e_slT, e_b1, e_b2, e_call, e_nil, e_cons, lft_some, un1_some, bi2_some, tB1_some, pk_t, pk_f, anK_t, anK_f, orK_t, orK_f, notK_some, csK_some, csM_some, mk1_some, clK_some, thS_nx, thS_rt, stG_some, nxT_some, rtG_some, bG_n, bG_t, bG_l, bsG_some, bs_nil, bs_cons, pr2_some, pr1_some, enR_rt, enR_nx, rd, List.map_cons, List.map_nil, List.length_cons, List.length_nil, Nat.reduceAdd, Nat.reduceSub, List.replicate, List.cons_append, List.nil_append, List.set_cons_zero, List.set_cons_succ, List.getD_cons_zero, List.getD_cons_succ, pd1, cB_eq_s, s_idem_assoc, s_idem_comm, s_idem_idem, s_idem_medial, s_idem_leftdist, s_idem_cancel, s_idem_divide, mul_n _ _ (n1000 V), add_n, at_o V, o_lt V, pos' V, ha, cB_ne_n]
theorem lb_comm (k : Nat) {n : Nat} {tb : List Nat} (V : Val n tb) {a b : Nat} (ha : a < n) (hb : b < n) (τ : Tape) : callF P (k + 1) 16 [.str "comm", tT tb, nI n, .tuple [nI a, nI b]] τ = some (.bool (!decide (o tb n a b = o tb n b a)), τ) := by
  simp only [c16, ir__law_broken, runB_eq, x_nil, x_cons, x_set, x_own, x_par, x_ret, x_ite, x_frz, e_v, e_c, e_yes, e_tup, e_lst, e_bin, e_cmp, e_isN, e_notN, e_and, e_or, e_not, e_ite, e_ix, e_slT, e_b1, e_b2, e_call, e_nil, e_cons, lft_some, un1_some, bi2_some, tB1_some, pk_t, pk_f, anK_t, anK_f, orK_t, orK_f, notK_some, csK_some, csM_some, mk1_some, clK_some, thS_nx, thS_rt, stG_some, nxT_some, rtG_some, bG_n, bG_t, bG_l, bsG_some, bs_nil, bs_cons, pr2_some, pr1_some, enR_rt, enR_nx, rd, List.map_cons, List.map_nil, List.length_cons, List.length_nil, Nat.reduceAdd, Nat.reduceSub, List.replicate, List.cons_append, List.nil_append, List.set_cons_zero, List.set_cons_succ, List.getD_cons_zero, List.getD_cons_succ, pd2, cB_eq_s, s_comm_assoc, s_comm_comm, s_comm_idem, s_comm_medial, s_comm_leftdist, s_comm_cancel, s_comm_divide, mul_n _ _ (n1000 V), add_n, at_o V, o_lt V, pos' V, ha, hb, cB_ne_n]
theorem lb_assoc (k : Nat) {n : Nat} {tb : List Nat} (V : Val n tb) {a b c : Nat} (ha : a < n) (hb : b < n) (hc : c < n) (τ : Tape) : callF P (k + 1) 16 [.str "assoc", tT tb, nI n, .tuple [nI a, nI b, nI c]] τ = some (.bool (!decide (o tb n (o tb n a b) c = o tb n a (o tb n b c))), τ) := by
  simp only [c16, ir__law_broken, runB_eq, x_nil, x_cons, x_set, x_own, x_par, x_ret, x_ite, x_frz, e_v, e_c, e_yes, e_tup, e_lst, e_bin, e_cmp, e_isN, e_notN, e_and, e_or, e_not, e_ite, e_ix, e_slT, e_b1, e_b2, e_call, e_nil, e_cons, lft_some, un1_some, bi2_some, tB1_some, pk_t, pk_f, anK_t, anK_f, orK_t, orK_f, notK_some, csK_some, csM_some, mk1_some, clK_some, thS_nx, thS_rt, stG_some, nxT_some, rtG_some, bG_n, bG_t, bG_l, bsG_some, bs_nil, bs_cons, pr2_some, pr1_some, enR_rt, enR_nx, rd, List.map_cons, List.map_nil, List.length_cons, List.length_nil, Nat.reduceAdd, Nat.reduceSub, List.replicate, List.cons_append, List.nil_append, List.set_cons_zero, List.set_cons_succ, List.getD_cons_zero, List.getD_cons_succ, pd3, cB_eq_s, s_assoc_assoc, s_assoc_comm, s_assoc_idem, s_assoc_medial, s_assoc_leftdist, s_assoc_cancel, s_assoc_divide, mul_n _ _ (n1000 V), add_n, at_o V, o_lt V, pos' V, ha, hb, hc, cB_ne_n]
theorem lb_medial (k : Nat) {n : Nat} {tb : List Nat} (V : Val n tb) {a b c d : Nat} (ha : a < n) (hb : b < n) (hc : c < n) (hd : d < n) (τ : Tape) : callF P (k + 1) 16 [.str "medial", tT tb, nI n, .tuple [nI a, nI b, nI c, nI d]] τ = some (.bool (!decide (o tb n (o tb n a b) (o tb n c d) = o tb n (o tb n a c) (o tb n b d))), τ) := by
  simp only [c16, ir__law_broken, runB_eq, x_nil, x_cons, x_set, x_own, x_par, x_ret, x_ite, x_frz, e_v, e_c, e_yes, e_tup, e_lst, e_bin, e_cmp, e_isN, e_notN, e_and, e_or, e_not, e_ite, e_ix, e_slT, e_b1, e_b2, e_call, e_nil, e_cons, lft_some, un1_some, bi2_some, tB1_some, pk_t, pk_f, anK_t, anK_f, orK_t, orK_f, notK_some, csK_some, csM_some, mk1_some, clK_some, thS_nx, thS_rt, stG_some, nxT_some, rtG_some, bG_n, bG_t, bG_l, bsG_some, bs_nil, bs_cons, pr2_some, pr1_some, enR_rt, enR_nx, rd, List.map_cons, List.map_nil, List.length_cons, List.length_nil, Nat.reduceAdd, Nat.reduceSub, List.replicate, List.cons_append, List.nil_append, List.set_cons_zero, List.set_cons_succ, List.getD_cons_zero, List.getD_cons_succ, pd4, cB_eq_s, s_medial_assoc, s_medial_comm, s_medial_idem, s_medial_medial, s_medial_leftdist, s_medial_cancel, s_medial_divide, mul_n _ _ (n1000 V), add_n, at_o V, o_lt V, pos' V, ha, hb, hc, hd, cB_ne_n]
theorem lb_leftdist (k : Nat) {n : Nat} {tb : List Nat} (V : Val n tb) {a b c : Nat} (ha : a < n) (hb : b < n) (hc : c < n) (τ : Tape) : callF P (k + 1) 16 [.str "leftdist", tT tb, nI n, .tuple [nI a, nI b, nI c]] τ = some (.bool (!decide (o tb n a (o tb n b c) = o tb n (o tb n a b) (o tb n a c))), τ) := by
  simp only [c16, ir__law_broken, runB_eq, x_nil, x_cons, x_set, x_own, x_par, x_ret, x_ite, x_frz, e_v, e_c, e_yes, e_tup, e_lst, e_bin, e_cmp, e_isN, e_notN, e_and, e_or, e_not, e_ite, e_ix, e_slT, e_b1, e_b2, e_call, e_nil, e_cons, lft_some, un1_some, bi2_some, tB1_some, pk_t, pk_f, anK_t, anK_f, orK_t, orK_f, notK_some, csK_some, csM_some, mk1_some, clK_some, thS_nx, thS_rt, stG_some, nxT_some, rtG_some, bG_n, bG_t, bG_l, bsG_some, bs_nil, bs_cons, pr2_some, pr1_some, enR_rt, enR_nx, rd, List.map_cons, List.map_nil, List.length_cons, List.length_nil, Nat.reduceAdd, Nat.reduceSub, List.replicate, List.cons_append, List.nil_append, List.set_cons_zero, List.set_cons_succ, List.getD_cons_zero, List.getD_cons_succ, pd3, cB_eq_s, s_leftdist_assoc, s_leftdist_comm, s_leftdist_idem, s_leftdist_medial, s_leftdist_leftdist, s_leftdist_cancel, s_leftdist_divide, mul_n _ _ (n1000 V), add_n, at_o V, o_lt V, pos' V, ha, hb, hc, cB_ne_n]
theorem lb_cancel (k : Nat) {n : Nat} {tb : List Nat} (V : Val n tb) {a b c : Nat} (ha : a < n) (hb : b < n) (hc : c < n) (τ : Tape) : callF P (k + 1) 16 [.str "cancel", tT tb, nI n, .tuple [nI a, nI b, nI c]] τ = some (.bool (!decide (b = c) && (decide (o tb n a b = o tb n a c) || decide (o tb n b a = o tb n c a))), τ) := by
  simp only [c16, ir__law_broken, runB_eq, x_nil, x_cons, x_set, x_own, x_par, x_ret, x_ite, x_frz, e_v, e_c, e_yes, e_tup, e_lst, e_bin, e_cmp, e_isN, e_notN, e_and, e_or, e_not, e_ite, e_ix, e_slT, e_b1, e_b2, e_call, e_nil, e_cons, lft_some, un1_some, bi2_some, tB1_some, pk_t, pk_f, anK_t, anK_f, orK_t, orK_f, notK_some, csK_some, csM_some, mk1_some, clK_some, thS_nx, thS_rt, stG_some, nxT_some, rtG_some, bG_n, bG_t, bG_l, bsG_some, bs_nil, bs_cons, pr2_some, pr1_some, enR_rt, enR_nx, rd, List.map_cons, List.map_nil, List.length_cons, List.length_nil, Nat.reduceAdd, Nat.reduceSub, List.replicate, List.cons_append, List.nil_append, List.set_cons_zero, List.set_cons_succ, List.getD_cons_zero, List.getD_cons_succ, pd3, cB_eq_s, s_cancel_assoc, s_cancel_comm, s_cancel_idem, s_cancel_medial, s_cancel_leftdist, s_cancel_cancel, s_cancel_divide, mul_n _ _ (n1000 V), add_n, at_o V, o_lt V, pos' V, ha, hb, hc, cB_ne_n, cB_eq_n, anK_b, anB_some, orK_b, orB_some]
theorem brk_cancel (k : Nat) {n : Nat} {tb : List Nat} (V : Val n tb) {a b c : Nat} (ha : a < n) (hb : b < n) (hc : c < n) (τ : Tape) : callF P (k + 3) 4 [.str "cancel", tT tb, nI n, .tuple [nI a, nI b, nI c]] τ = some (.bool (!decide (b = c) && (decide (o tb n a b = o tb n a c) || decide (o tb n b a = o tb n c a))), τ) := by
  simp only [c4, ir_breaks_at, runB_eq, x_nil, x_cons, x_set, x_own, x_par, x_ret, x_ite, x_frz, e_v, e_c, e_yes, e_tup, e_lst, e_bin, e_cmp, e_isN, e_notN, e_and, e_or, e_not, e_ite, e_ix, e_slT, e_b1, e_b2, e_call, e_nil, e_cons, lft_some, un1_some, bi2_some, tB1_some, pk_t, pk_f, anK_t, anK_f, orK_t, orK_f, notK_some, csK_some, csM_some, mk1_some, clK_some, thS_nx, thS_rt, stG_some, nxT_some, rtG_some, bG_n, bG_t, bG_l, bsG_some, bs_nil, bs_cons, pr2_some, pr1_some, enR_rt, enR_nx, rd, List.map_cons, List.map_nil, List.length_cons, List.length_nil, Nat.reduceAdd, Nat.reduceSub, List.replicate, List.cons_append, List.nil_append, List.set_cons_zero, List.set_cons_succ, List.getD_cons_zero, List.getD_cons_succ, cB_eq_s, s_cancel_assoc, s_cancel_comm, s_cancel_idem, s_cancel_medial, s_cancel_leftdist, s_cancel_cancel, s_cancel_divide, times_ok (k + 1) V, ha, hb, hc, cB_ne_n, cB_eq_n, anK_b, anB_some, orK_b, orB_some]
end K69
set_option Elab.async false
set_option linter.all false
set_option maxRecDepth 100000
set_option maxHeartbeats 2000000
namespace K69
open PySem Ev
theorem cB_eq_0 (a : Nat) : cB .eq (nI a) (.int 0) = some (.bool (decide (a = 0))) := cB_eq_n a 0
/-! ### divide -/
def divB (tb : List Nat) (n a b : Nat) : Bool := !((List.range n).any (fun c => decide (o tb n a c = b)) && (List.range n).any (fun c => decide (o tb n c a = b)))
theorem brk_divide (k : Nat) {n : Nat} {tb : List Nat} (V : Val n tb) {a b : Nat} (ha : a < n) (hb : b < n) (τ : Tape) : callF P (k + 3) 4 [.str "divide", tT tb, nI n, .tuple [nI a, nI b]] τ = some (.bool (divB tb n a b), τ) := by
  have g1 : ∀ (x9 : Option D), evalE (callF P (k + 2)) (.b1 .any (.comp [8] (.n 8) .r1 [(.v 2)] .yes (.cmp .eq (.call 0 [(.v 1), (.v 2), (.v 6), (.v 8)]) (.v 7)))) [some (.str "divide"), some (tT tb), some (nI n), some (.tuple [nI a, nI b]), none, none, some (nI a), some (nI b), none, x9] τ = some (.bool ((List.range n).any fun c => decide (o tb n a c = b)), τ) := fun x9 =>
    any_r (nmil V) (by simp only [runB_eq, x_nil, x_cons, x_set, x_own, x_par, x_ret, x_ite, x_frz, e_v, e_c, e_yes, e_tup, e_lst, e_bin, e_cmp, e_isN, e_notN, e_and, e_or, e_not, e_ite, e_ix, e_slT, e_b1, e_b2, e_call, e_nil, e_cons, lft_some, un1_some, bi2_some, tB1_some, pk_t, pk_f, anK_t, anK_f, orK_t, orK_f, notK_some, csK_some, csM_some, mk1_some, clK_some, thS_nx, thS_rt, stG_some, nxT_some, rtG_some, bG_n, bG_t, bG_l, bsG_some, bs_nil, bs_cons, pr2_some, pr1_some, enR_rt, enR_nx, rd, List.map_cons, List.map_nil, List.length_cons, List.length_nil, Nat.reduceAdd, Nat.reduceSub, List.replicate, List.cons_append, List.nil_append, List.set_cons_zero, List.set_cons_succ, List.getD_cons_zero, List.getD_cons_succ]) fun c hc => by simp only [runB_eq, x_nil, x_cons, x_set, x_own, x_par, x_ret, x_ite, x_frz, e_v, e_c, e_yes, e_tup, e_lst, e_bin, e_cmp, e_isN, e_notN, e_and, e_or, e_not, e_ite, e_ix, e_slT, e_b1, e_b2, e_call, e_nil, e_cons, lft_some, un1_some, bi2_some, tB1_some, pk_t, pk_f, anK_t, anK_f, orK_t, orK_f, notK_some, csK_some, csM_some, mk1_some, clK_some, thS_nx, thS_rt, stG_some, nxT_some, rtG_some, bG_n, bG_t, bG_l, bsG_some, bs_nil, bs_cons, pr2_some, pr1_some, enR_rt, enR_nx, rd, List.map_cons, List.map_nil, List.length_cons, List.length_nil, Nat.reduceAdd, Nat.reduceSub, List.replicate, List.cons_append, List.nil_append, List.set_cons_zero, List.set_cons_succ, List.getD_cons_zero, List.getD_cons_succ, times_ok (k + 1) V, ha, hc, cB_eq_n]
  have g2 : ∀ (x9 : Option D), evalE (callF P (k + 2)) (.b1 .any (.comp [8] (.n 8) .r1 [(.v 2)] .yes (.cmp .eq (.call 0 [(.v 1), (.v 2), (.v 8), (.v 6)]) (.v 7)))) [some (.str "divide"), some (tT tb), some (nI n), some (.tuple [nI a, nI b]), none, none, some (nI a), some (nI b), none, x9] τ = some (.bool ((List.range n).any fun c => decide (o tb n c a = b)), τ) := fun x9 =>
    any_r (nmil V) (by simp only [runB_eq, x_nil, x_cons, x_set, x_own, x_par, x_ret, x_ite, x_frz, e_v, e_c, e_yes, e_tup, e_lst, e_bin, e_cmp, e_isN, e_notN, e_and, e_or, e_not, e_ite, e_ix, e_slT, e_b1, e_b2, e_call, e_nil, e_cons, lft_some, un1_some, bi2_some, tB1_some, pk_t, pk_f, anK_t, anK_f, orK_t, orK_f, notK_some, csK_some, csM_some, mk1_some, clK_some, thS_nx, thS_rt, stG_some, nxT_some, rtG_some, bG_n, bG_t, bG_l, bsG_some, bs_nil, bs_cons, pr2_some, pr1_some, enR_rt, enR_nx, rd, List.map_cons, List.map_nil, List.length_cons, List.length_nil, Nat.reduceAdd, Nat.reduceSub, List.replicate, List.cons_append, List.nil_append, List.set_cons_zero, List.set_cons_succ, List.getD_cons_zero, List.getD_cons_succ]) fun c hc => by simp only [runB_eq, x_nil, x_cons, x_set, x_own, x_par, x_ret, x_ite, x_frz, e_v, e_c, e_yes, e_tup, e_lst, e_bin, e_cmp, e_isN, e_notN, e_and, e_or, e_not, e_ite, e_ix, e_slT, e_b1, e_b2, e_call, e_nil, e_cons, lft_some, un1_some, bi2_some, tB1_some, pk_t, pk_f, anK_t, anK_f, orK_t, orK_f, notK_some, csK_some, csM_some, mk1_some, clK_some, thS_nx, thS_rt, stG_some, nxT_some, rtG_some, bG_n, bG_t, bG_l, bsG_some, bs_nil, bs_cons, pr2_some, pr1_some, enR_rt, enR_nx, rd, List.map_cons, List.map_nil, List.length_cons, List.length_nil, Nat.reduceAdd, Nat.reduceSub, List.replicate, List.cons_append, List.nil_append, List.set_cons_zero, List.set_cons_succ, List.getD_cons_zero, List.getD_cons_succ, times_ok (k + 1) V, ha, hc, cB_eq_n]
  have h1 := fun x => (e_b1 _ _ _ _ _).symm.trans (g1 x)
  have h2 := fun x => (e_b1 _ _ _ _ _).symm.trans (g2 x)
  simp only [c4, ir_breaks_at, runB_eq, x_nil, x_cons, x_set, x_own, x_par, x_ret, x_ite, x_frz, e_v, e_c, e_yes, e_tup, e_lst, e_bin, e_cmp, e_isN, e_notN, e_and, e_or, e_not, e_ite, e_ix, e_slT, e_b1, e_b2, e_call, e_nil, e_cons, lft_some, un1_some, bi2_some, tB1_some, pk_t, pk_f, anK_t, anK_f, orK_t, orK_f, notK_some, csK_some, csM_some, mk1_some, clK_some, thS_nx, thS_rt, stG_some, nxT_some, rtG_some, bG_n, bG_t, bG_l, bsG_some, bs_nil, bs_cons, pr2_some, pr1_some, enR_rt, enR_nx, rd, List.map_cons, List.map_nil, List.length_cons, List.length_nil, Nat.reduceAdd, Nat.reduceSub, List.replicate, List.cons_append, List.nil_append, List.set_cons_zero, List.set_cons_succ, List.getD_cons_zero, List.getD_cons_succ, cB_eq_s, s_divide_cancel, s_divide_divide, h1, h2, anK_b, anB_some]
  rfl
theorem lb_divide (k : Nat) {n : Nat} {tb : List Nat} (V : Val n tb) {a b : Nat} (ha : a < n) (hb : b < n) (τ : Tape) : callF P (k + 1) 16 [.str "divide", tT tb, nI n, .tuple [nI a, nI b]] τ = some (.bool (divB tb n a b), τ) := by
  have g1 : evalE (callF P k) (.b1 .len (.comp [6] (.n 6) .r1 [(.v 2)] (.cmp .eq (.ix (.v 8) (.bin .add (.bin .mul (.v 4) (.v 2)) (.v 6))) (.v 5)) (.v 6))) [some (.str "divide"), some (tT tb), some (nI n), some (.tuple [nI a, nI b]), some (nI a), some (nI b), some (nI 0), some (nI 0), some (tT tb)] τ = some (nI ((List.range n).filter fun c => decide (o tb n a c = b)).length, τ) :=
    flen_r (nmil V) (by simp) (by simp only [runB_eq, x_nil, x_cons, x_set, x_own, x_par, x_ret, x_ite, x_frz, e_v, e_c, e_yes, e_tup, e_lst, e_bin, e_cmp, e_isN, e_notN, e_and, e_or, e_not, e_ite, e_ix, e_slT, e_b1, e_b2, e_call, e_nil, e_cons, lft_some, un1_some, bi2_some, tB1_some, pk_t, pk_f, anK_t, anK_f, orK_t, orK_f, notK_some, csK_some, csM_some, mk1_some, clK_some, thS_nx, thS_rt, stG_some, nxT_some, rtG_some, bG_n, bG_t, bG_l, bsG_some, bs_nil, bs_cons, pr2_some, pr1_some, enR_rt, enR_nx, rd, List.map_cons, List.map_nil, List.length_cons, List.length_nil, Nat.reduceAdd, Nat.reduceSub, List.replicate, List.cons_append, List.nil_append, List.set_cons_zero, List.set_cons_succ, List.getD_cons_zero, List.getD_cons_succ]) fun c hc => by simp only [runB_eq, x_nil, x_cons, x_set, x_own, x_par, x_ret, x_ite, x_frz, e_v, e_c, e_yes, e_tup, e_lst, e_bin, e_cmp, e_isN, e_notN, e_and, e_or, e_not, e_ite, e_ix, e_slT, e_b1, e_b2, e_call, e_nil, e_cons, lft_some, un1_some, bi2_some, tB1_some, pk_t, pk_f, anK_t, anK_f, orK_t, orK_f, notK_some, csK_some, csM_some, mk1_some, clK_some, thS_nx, thS_rt, stG_some, nxT_some, rtG_some, bG_n, bG_t, bG_l, bsG_some, bs_nil, bs_cons, pr2_some, pr1_some, enR_rt, enR_nx, rd, List.map_cons, List.map_nil, List.length_cons, List.length_nil, Nat.reduceAdd, Nat.reduceSub, List.replicate, List.cons_append, List.nil_append, List.set_cons_zero, List.set_cons_succ, List.getD_cons_zero, List.getD_cons_succ, mul_n _ _ (n1000 V), add_n, at_o V, ha, hc, cB_eq_n]
  have g2 : evalE (callF P k) (.b1 .len (.comp [6] (.n 6) .r1 [(.v 2)] (.cmp .eq (.ix (.v 8) (.bin .add (.bin .mul (.v 6) (.v 2)) (.v 4))) (.v 5)) (.v 6))) [some (.str "divide"), some (tT tb), some (nI n), some (.tuple [nI a, nI b]), some (nI a), some (nI b), some (nI 0), some (nI 0), some (tT tb)] τ = some (nI ((List.range n).filter fun c => decide (o tb n c a = b)).length, τ) :=
    flen_r (nmil V) (by simp) (by simp only [runB_eq, x_nil, x_cons, x_set, x_own, x_par, x_ret, x_ite, x_frz, e_v, e_c, e_yes, e_tup, e_lst, e_bin, e_cmp, e_isN, e_notN, e_and, e_or, e_not, e_ite, e_ix, e_slT, e_b1, e_b2, e_call, e_nil, e_cons, lft_some, un1_some, bi2_some, tB1_some, pk_t, pk_f, anK_t, anK_f, orK_t, orK_f, notK_some, csK_some, csM_some, mk1_some, clK_some, thS_nx, thS_rt, stG_some, nxT_some, rtG_some, bG_n, bG_t, bG_l, bsG_some, bs_nil, bs_cons, pr2_some, pr1_some, enR_rt, enR_nx, rd, List.map_cons, List.map_nil, List.length_cons, List.length_nil, Nat.reduceAdd, Nat.reduceSub, List.replicate, List.cons_append, List.nil_append, List.set_cons_zero, List.set_cons_succ, List.getD_cons_zero, List.getD_cons_succ]) fun c hc => by simp only [runB_eq, x_nil, x_cons, x_set, x_own, x_par, x_ret, x_ite, x_frz, e_v, e_c, e_yes, e_tup, e_lst, e_bin, e_cmp, e_isN, e_notN, e_and, e_or, e_not, e_ite, e_ix, e_slT, e_b1, e_b2, e_call, e_nil, e_cons, lft_some, un1_some, bi2_some, tB1_some, pk_t, pk_f, anK_t, anK_f, orK_t, orK_f, notK_some, csK_some, csM_some, mk1_some, clK_some, thS_nx, thS_rt, stG_some, nxT_some, rtG_some, bG_n, bG_t, bG_l, bsG_some, bs_nil, bs_cons, pr2_some, pr1_some, enR_rt, enR_nx, rd, List.map_cons, List.map_nil, List.length_cons, List.length_nil, Nat.reduceAdd, Nat.reduceSub, List.replicate, List.cons_append, List.nil_append, List.set_cons_zero, List.set_cons_succ, List.getD_cons_zero, List.getD_cons_succ, mul_n _ _ (n1000 V), add_n, at_o V, ha, hc, cB_eq_n]
  rw [e_b1] at g1 g2
  simp only [c16, ir__law_broken, runB_eq, x_nil, x_cons, x_set, x_own, x_par, x_ret, x_ite, x_frz, e_v, e_c, e_yes, e_tup, e_lst, e_bin, e_cmp, e_isN, e_notN, e_and, e_or, e_not, e_ite, e_ix, e_slT, e_b1, e_b2, e_call, e_nil, e_cons, lft_some, un1_some, bi2_some, tB1_some, pk_t, pk_f, anK_t, anK_f, orK_t, orK_f, notK_some, csK_some, csM_some, mk1_some, clK_some, thS_nx, thS_rt, stG_some, nxT_some, rtG_some, bG_n, bG_t, bG_l, bsG_some, bs_nil, bs_cons, pr2_some, pr1_some, enR_rt, enR_nx, rd, List.map_cons, List.map_nil, List.length_cons, List.length_nil, Nat.reduceAdd, Nat.reduceSub, List.replicate, List.cons_append, List.nil_append, List.set_cons_zero, List.set_cons_succ, List.getD_cons_zero, List.getD_cons_succ, pd2, cB_eq_s, s_divide_assoc, s_divide_comm, s_divide_idem, s_divide_medial, s_divide_leftdist, s_divide_cancel, g1, g2, cB_eq_0, orK_b, orB_some]
  congr 3
  unfold divB
  have key : ∀ f : Nat → Bool, decide (((List.range n).filter f).length = 0) = !(List.range n).any f := fun f => by
    rw [Bool.eq_iff_iff]
    simp [List.filter_eq_nil_iff, List.length_eq_zero_iff]
  rw [key, key, Bool.not_and]
end K69
set_option Elab.async false
set_option linter.all false
set_option maxRecDepth 100000
set_option maxHeartbeats 2000000
namespace K69
open PySem Ev
def encT (row : List Nat) : D := .tuple (row.map nI)
def prods (n : Nat) : Nat → List (List Nat)
  | 0 => [[]]
  | m + 1 => (prods n m).flatMap fun row => (List.range n).map fun v => row ++ [v]
theorem prods_mem {n : Nat} : ∀ {m : Nat} {row : List Nat}, row ∈ prods n m → row.length = m ∧ ∀ x ∈ row, x < n
  | 0, row, h => by
    rw [prods, List.mem_singleton] at h
    subst h
    exact ⟨rfl, fun x hx => (List.not_mem_nil hx).elim⟩
  | m + 1, row, h => by
    rw [prods, List.mem_flatMap] at h
    obtain ⟨r, hr, h⟩ := h
    obtain ⟨v, hv, rfl⟩ := List.mem_map.mp h
    obtain ⟨h1, h2⟩ := prods_mem hr
    refine ⟨by rw [List.length_append, h1]; rfl, fun x hx => ?_⟩
    rcases List.mem_append.mp hx with hx | hx
    · exact h2 x hx
    · rw [List.mem_singleton] at hx; subst hx; exact List.mem_range.mp hv
theorem flat_len {α : Type} (n : Nat) (y : α → Nat → List Nat) : ∀ xs : List α, (xs.flatMap fun x => (List.range n).map (y x)).length = xs.length * n
  | [] => by simp
  | x :: r => by
    rw [List.flatMap_cons, List.length_append, flat_len n y r, List.length_map, List.length_range, List.length_cons, Nat.add_mul, Nat.one_mul, Nat.add_comm]
theorem prods_len (n : Nat) : ∀ m, (prods n m).length = n ^ m
  | 0 => rfl
  | m + 1 => by rw [prods, flat_len, prods_len n m, Nat.pow_succ]
theorem prods_le {n m : Nat} (hn : n ≤ 6) (hm : m ≤ 4) : (prods n m).length ≤ 1296 := by
  rw [prods_len]
  calc n ^ m ≤ 6 ^ m := Nat.pow_le_pow_left hn m
    _ ≤ 6 ^ 4 := Nat.pow_le_pow_right (by decide) hm
theorem add_row {row : List Nat} {v : Nat} (h : row.length ≤ 1000) : opBin .add (encT row) (.tuple [nI v]) = some (encT (row ++ [v])) := by
  unfold encT
  simp only [opBin, opAdd]
  rw [if_pos (by
    have : sizeLine = 16777216 := rfl
    rw [this, List.length_map]
    simp only [List.length_cons, List.length_nil]
    omega), List.map_append]
  rfl
theorem map_flat (n : Nat) (xs : List (List Nat)) : (xs.flatMap fun row => (List.range n).map fun v => encT (row ++ [v])) = (xs.flatMap fun row => (List.range n).map fun v => row ++ [v]).map encT := by
  rw [List.map_flatMap]
  congr 1
  funext row
  rw [List.map_map]
  rfl
theorem line_ok {k : Nat} (h : k ≤ 1000000) : k ≤ sizeLine := Nat.le_trans h (by decide)
/-- tuples -/
theorem tuples_ok (k : Nat) {n m : Nat} (hn : n ≤ 6) (hm : m ≤ 4) (τ : Tape) : callF P (k + 1) 3 [nI n, nI m] τ = some (.list ((prods n m).map encT), τ) := by
  have lp := for_pre (cf := callF P k) (τ := τ) (tg := .n 3) (k := .r1) (args := [.v 1]) (b := [.set (.n 2) (.comp2 [4, 5] (.n 4) .seq [(.v 2)] .yes (.n 5) .r1 [(.v 0)] .yes (.bin .add (.v 4) (.tup [(.v 5)])))]) (ks := [3]) (G := [.p, .p, .p, .u, .u, .u])
    (List.range m) nI (fun p => [some (nI n), some (nI m), some (.list ((prods n p.length).map encT)), none, none, none]) (ds := [nI m]) (by simp only [runB_eq, x_nil, x_cons, x_set, x_own, x_par, x_ret, x_ite, x_frz, e_v, e_c, e_yes, e_tup, e_lst, e_bin, e_cmp, e_isN, e_notN, e_and, e_or, e_not, e_ite, e_ix, e_slT, e_b1, e_b2, e_call, e_nil, e_cons, lft_some, un1_some, bi2_some, tB1_some, pk_t, pk_f, anK_t, anK_f, orK_t, orK_f, notK_some, csK_some, csM_some, mk1_some, clK_some, thS_nx, thS_rt, stG_some, nxT_some, rtG_some, bG_n, bG_t, bG_l, bsG_some, bs_nil, bs_cons, pr2_some, pr1_some, enR_rt, enR_nx, rd, List.map_cons, List.map_nil, List.length_cons, List.length_nil, Nat.reduceAdd, Nat.reduceSub, List.replicate, List.cons_append, List.nil_append, List.set_cons_zero, List.set_cons_succ, List.getD_cons_zero, List.getD_cons_succ]) (range_n m (by omega)) fun p x q e => by
      have hp : p.length + 1 ≤ 4 := by
        have := congrArg List.length e
        rw [List.length_range, List.length_append, List.length_cons] at this
        omega
      refine ⟨[some (nI n), some (nI m), some (.list ((prods n p.length).map encT)), some (nI x), none, none], [some (nI n), some (nI m), some (.list ((prods n (p.length + 1)).map encT)), some (nI x), none, none], by simp only [bindT]; rfl, ?_, ?_⟩
      · have c := ev_c2 (cf := callF P k) (own := [4, 5]) (tg := .n 4) (tg2 := .n 5) (k := .seq) (args := [(.v 2)]) (args2 := [(.v 0)]) (elt := .bin .add (.v 4) (.tup [(.v 5)])) (γ := [some (nI n), some (nI m), some (.list ((prods n p.length).map encT)), some (nI x), none, none]) (τ := τ) (prods n p.length) encT (fun row v => encT (row ++ [v])) (n := n) (by omega) (ds := [.list ((prods n p.length).map encT)])
          (by simp only [runB_eq, x_nil, x_cons, x_set, x_own, x_par, x_ret, x_ite, x_frz, e_v, e_c, e_yes, e_tup, e_lst, e_bin, e_cmp, e_isN, e_notN, e_and, e_or, e_not, e_ite, e_ix, e_slT, e_b1, e_b2, e_call, e_nil, e_cons, lft_some, un1_some, bi2_some, tB1_some, pk_t, pk_f, anK_t, anK_f, orK_t, orK_f, notK_some, csK_some, csM_some, mk1_some, clK_some, thS_nx, thS_rt, stG_some, nxT_some, rtG_some, bG_n, bG_t, bG_l, bsG_some, bs_nil, bs_cons, pr2_some, pr1_some, enR_rt, enR_nx, rd, List.map_cons, List.map_nil, List.length_cons, List.length_nil, Nat.reduceAdd, Nat.reduceSub, List.replicate, List.cons_append, List.nil_append, List.set_cons_zero, List.set_cons_succ, List.getD_cons_zero, List.getD_cons_succ]) (seq_l _) (fun row hr => ⟨[some (nI n), some (nI m), some (.list ((prods n p.length).map encT)), some (nI x), some (encT row), none], by simp only [bindT]; rfl, by simp only [runB_eq, x_nil, x_cons, x_set, x_own, x_par, x_ret, x_ite, x_frz, e_v, e_c, e_yes, e_tup, e_lst, e_bin, e_cmp, e_isN, e_notN, e_and, e_or, e_not, e_ite, e_ix, e_slT, e_b1, e_b2, e_call, e_nil, e_cons, lft_some, un1_some, bi2_some, tB1_some, pk_t, pk_f, anK_t, anK_f, orK_t, orK_f, notK_some, csK_some, csM_some, mk1_some, clK_some, thS_nx, thS_rt, stG_some, nxT_some, rtG_some, bG_n, bG_t, bG_l, bsG_some, bs_nil, bs_cons, pr2_some, pr1_some, enR_rt, enR_nx, rd, List.map_cons, List.map_nil, List.length_cons, List.length_nil, Nat.reduceAdd, Nat.reduceSub, List.replicate, List.cons_append, List.nil_append, List.set_cons_zero, List.set_cons_succ, List.getD_cons_zero, List.getD_cons_succ], fun v hv => ⟨[some (nI n), some (nI m), some (.list ((prods n p.length).map encT)), some (nI x), some (encT row), some (nI v)], by simp only [bindT]; rfl, by
            simp only [runB_eq, x_nil, x_cons, x_set, x_own, x_par, x_ret, x_ite, x_frz, e_v, e_c, e_yes, e_tup, e_lst, e_bin, e_cmp, e_isN, e_notN, e_and, e_or, e_not, e_ite, e_ix, e_slT, e_b1, e_b2, e_call, e_nil, e_cons, lft_some, un1_some, bi2_some, tB1_some, pk_t, pk_f, anK_t, anK_f, orK_t, orK_f, notK_some, csK_some, csM_some, mk1_some, clK_some, thS_nx, thS_rt, stG_some, nxT_some, rtG_some, bG_n, bG_t, bG_l, bsG_some, bs_nil, bs_cons, pr2_some, pr1_some, enR_rt, enR_nx, rd, List.map_cons, List.map_nil, List.length_cons, List.length_nil, Nat.reduceAdd, Nat.reduceSub, List.replicate, List.cons_append, List.nil_append, List.set_cons_zero, List.set_cons_succ, List.getD_cons_zero, List.getD_cons_succ]
            rw [add_row (by rw [(prods_mem hr).1]; omega), lft_some]⟩⟩) (by
            rw [map_flat, List.length_map]
            exact line_ok (Nat.le_trans (prods_le (m := p.length + 1) hn hp) (by decide)))
        rw [map_flat] at c
        simp only [x_cons, x_set, runB_eq, x_nil, x_cons, x_set, x_own, x_par, x_ret, x_ite, x_frz, e_v, e_c, e_yes, e_tup, e_lst, e_bin, e_cmp, e_isN, e_notN, e_and, e_or, e_not, e_ite, e_ix, e_slT, e_b1, e_b2, e_call, e_nil, e_cons, lft_some, un1_some, bi2_some, tB1_some, pk_t, pk_f, anK_t, anK_f, orK_t, orK_f, notK_some, csK_some, csM_some, mk1_some, clK_some, thS_nx, thS_rt, stG_some, nxT_some, rtG_some, bG_n, bG_t, bG_l, bsG_some, bs_nil, bs_cons, pr2_some, pr1_some, enR_rt, enR_nx, rd, List.map_cons, List.map_nil, List.length_cons, List.length_nil, Nat.reduceAdd, Nat.reduceSub, List.replicate, List.cons_append, List.nil_append, List.set_cons_zero, List.set_cons_succ, List.getD_cons_zero, List.getD_cons_succ]
        rw [c]
        rfl
      · show _ = [some (nI n), some (nI m), some (.list ((prods n (p ++ [x]).length).map encT)), none, none, none]
        rw [List.length_append]
        rfl
  rw [List.length_range] at lp
  simp only [c3, ir_tuples, runB_eq, x_nil, x_cons, x_set, x_own, x_par, x_ret, x_ite, x_frz, e_v, e_c, e_yes, e_tup, e_lst, e_bin, e_cmp, e_isN, e_notN, e_and, e_or, e_not, e_ite, e_ix, e_slT, e_b1, e_b2, e_call, e_nil, e_cons, lft_some, un1_some, bi2_some, tB1_some, pk_t, pk_f, anK_t, anK_f, orK_t, orK_f, notK_some, csK_some, csM_some, mk1_some, clK_some, thS_nx, thS_rt, stG_some, nxT_some, rtG_some, bG_n, bG_t, bG_l, bsG_some, bs_nil, bs_cons, pr2_some, pr1_some, enR_rt, enR_nx, rd, List.map_cons, List.map_nil, List.length_cons, List.length_nil, Nat.reduceAdd, Nat.reduceSub, List.replicate, List.cons_append, List.nil_append, List.set_cons_zero, List.set_cons_succ, List.getD_cons_zero, List.getD_cons_succ]
  have e0 : (some (PyData.list [PyData.tuple []]) : Option D) = some (.list ((prods n ([] : List Nat).length).map encT)) := rfl
  rw [e0, lp]
  simp only [runB_eq, x_nil, x_cons, x_set, x_own, x_par, x_ret, x_ite, x_frz, e_v, e_c, e_yes, e_tup, e_lst, e_bin, e_cmp, e_isN, e_notN, e_and, e_or, e_not, e_ite, e_ix, e_slT, e_b1, e_b2, e_call, e_nil, e_cons, lft_some, un1_some, bi2_some, tB1_some, pk_t, pk_f, anK_t, anK_f, orK_t, orK_f, notK_some, csK_some, csM_some, mk1_some, clK_some, thS_nx, thS_rt, stG_some, nxT_some, rtG_some, bG_n, bG_t, bG_l, bsG_some, bs_nil, bs_cons, pr2_some, pr1_some, enR_rt, enR_nx, rd, List.map_cons, List.map_nil, List.length_cons, List.length_nil, Nat.reduceAdd, Nat.reduceSub, List.replicate, List.cons_append, List.nil_append, List.set_cons_zero, List.set_cons_succ, List.getD_cons_zero, List.getD_cons_succ]
end K69
set_option Elab.async false
set_option linter.all false
set_option maxRecDepth 100000
set_option maxHeartbeats 2000000
namespace K69
open PySem Ev
def KV : List (Str × D) := [("assoc", (.int 3)), ("comm", (.int 2)), ("idem", (.int 1)), ("medial", (.int 4)), ("leftdist", (.int 3)), ("cancel", (.int 3)), ("divide", (.int 2))]
structure Word (n : Nat) (tb : List Nat) (w : Str) (m : Nat) (B : List Nat → Bool) : Prop where
  lk : lastK KV w = some (nI m)
  hm : m ≤ 4
  br : ∀ (k : Nat) (τ : Tape) (row : List Nat), row ∈ prods n m → callF P (k + 3) 4 [.str w, tT tb, nI n, encT row] τ = some (.bool (B row), τ)
  lb : ∀ (k : Nat) (τ : Tape) (row : List Nat), row ∈ prods n m → callF P (k + 1) 16 [.str w, tT tb, nI n, encT row] τ = some (.bool (B row), τ)
def told : Option (List Nat) → D
  | some r => .tuple [.str "breaks", encT r]
  | none => .tuple [.str "holds"]
section
variable {n m : Nat} {tb : List Nat} {w : Str} {B : List Nat → Bool}
theorem strOf_str (x : Str) : strOf (.str x) = some x := rfl
theorem places_ok (k : Nat) (h : Word n tb w m B) (τ : Tape) : callF P (k + 1) 2 [.str w] τ = some (nI m, τ) := by
  have e : lastK [("assoc", (.int 3)), ("comm", (.int 2)), ("idem", (.int 1)), ("medial", (.int 4)), ("leftdist", (.int 3)), ("cancel", (.int 3)), ("divide", (.int 2))] w = some (nI m) := h.lk
  simp only [c2, ir_places_of, runB_eq, x_nil, x_cons, x_set, x_own, x_par, x_ret, x_ite, x_frz, e_v, e_c, e_yes, e_tup, e_lst, e_bin, e_cmp, e_isN, e_notN, e_and, e_or, e_not, e_ite, e_ix, e_slT, e_b1, e_b2, e_call, e_nil, e_cons, lft_some, un1_some, bi2_some, tB1_some, pk_t, pk_f, anK_t, anK_f, orK_t, orK_f, notK_some, csK_some, csM_some, mk1_some, clK_some, thS_nx, thS_rt, stG_some, nxT_some, rtG_some, bG_n, bG_t, bG_l, bsG_some, bs_nil, bs_cons, pr2_some, pr1_some, enR_rt, enR_nx, rd, List.map_cons, List.map_nil, List.length_cons, List.length_nil, Nat.reduceAdd, Nat.reduceSub, List.replicate, List.cons_append, List.nil_append, List.set_cons_zero, List.set_cons_succ, List.getD_cons_zero, List.getD_cons_succ, e_dcst, strOf_str, Option.bind_some, e]
theorem law_of_ok (k : Nat) (V : Val n tb) (h : Word n tb w m B) (τ : Tape) : callF P (k + 4) 5 [.str w, tT tb, nI n] τ = some (told ((prods n m).find? B), τ) := by
  have lp := for_hit (cf := callF P (k + 3)) (γ := [some (.str w), some (tT tb), some (nI n), none]) (τ := τ) (tg := .n 3) (k := .seq) (args := [(.call 3 [(.v 2), (.call 2 [(.v 0)])])]) (b := [.ite (.call 4 [(.v 0), (.v 1), (.v 2), (.v 3)]) [.ret (.tup [(.c (.str "breaks")), (.v 3)])] []]) (ks := [3]) (G := [.p, .p, .p, .u])
    (prods n m) encT B (fun r => .tuple [.str "breaks", encT r]) (ds := [.list ((prods n m).map encT)]) (by simp only [runB_eq, x_nil, x_cons, x_set, x_own, x_par, x_ret, x_ite, x_frz, e_v, e_c, e_yes, e_tup, e_lst, e_bin, e_cmp, e_isN, e_notN, e_and, e_or, e_not, e_ite, e_ix, e_slT, e_b1, e_b2, e_call, e_nil, e_cons, lft_some, un1_some, bi2_some, tB1_some, pk_t, pk_f, anK_t, anK_f, orK_t, orK_f, notK_some, csK_some, csM_some, mk1_some, clK_some, thS_nx, thS_rt, stG_some, nxT_some, rtG_some, bG_n, bG_t, bG_l, bsG_some, bs_nil, bs_cons, pr2_some, pr1_some, enR_rt, enR_nx, rd, List.map_cons, List.map_nil, List.length_cons, List.length_nil, Nat.reduceAdd, Nat.reduceSub, List.replicate, List.cons_append, List.nil_append, List.set_cons_zero, List.set_cons_succ, List.getD_cons_zero, List.getD_cons_succ, places_ok (k + 2) h, tuples_ok (k + 2) V.small h.hm]) (seq_l _) (fun row hr => ⟨[some (.str w), some (tT tb), some (nI n), some (encT row)], by simp only [bindT]; rfl, by
      cases hb : B row with
      | true =>
        rw [if_pos rfl]
        simp only [runB_eq, x_nil, x_cons, x_set, x_own, x_par, x_ret, x_ite, x_frz, e_v, e_c, e_yes, e_tup, e_lst, e_bin, e_cmp, e_isN, e_notN, e_and, e_or, e_not, e_ite, e_ix, e_slT, e_b1, e_b2, e_call, e_nil, e_cons, lft_some, un1_some, bi2_some, tB1_some, pk_t, pk_f, anK_t, anK_f, orK_t, orK_f, notK_some, csK_some, csM_some, mk1_some, clK_some, thS_nx, thS_rt, stG_some, nxT_some, rtG_some, bG_n, bG_t, bG_l, bsG_some, bs_nil, bs_cons, pr2_some, pr1_some, enR_rt, enR_nx, rd, List.map_cons, List.map_nil, List.length_cons, List.length_nil, Nat.reduceAdd, Nat.reduceSub, List.replicate, List.cons_append, List.nil_append, List.set_cons_zero, List.set_cons_succ, List.getD_cons_zero, List.getD_cons_succ, h.br k τ row hr, hb]
      | false =>
        rw [if_neg Bool.false_ne_true]
        exact ⟨_, by simp only [runB_eq, x_nil, x_cons, x_set, x_own, x_par, x_ret, x_ite, x_frz, e_v, e_c, e_yes, e_tup, e_lst, e_bin, e_cmp, e_isN, e_notN, e_and, e_or, e_not, e_ite, e_ix, e_slT, e_b1, e_b2, e_call, e_nil, e_cons, lft_some, un1_some, bi2_some, tB1_some, pk_t, pk_f, anK_t, anK_f, orK_t, orK_f, notK_some, csK_some, csM_some, mk1_some, clK_some, thS_nx, thS_rt, stG_some, nxT_some, rtG_some, bG_n, bG_t, bG_l, bsG_some, bs_nil, bs_cons, pr2_some, pr1_some, enR_rt, enR_nx, rd, List.map_cons, List.map_nil, List.length_cons, List.length_nil, Nat.reduceAdd, Nat.reduceSub, List.replicate, List.cons_append, List.nil_append, List.set_cons_zero, List.set_cons_succ, List.getD_cons_zero, List.getD_cons_succ, h.br k τ row hr, hb]; rfl, rfl⟩⟩)
  simp only [c5, ir_law_of, runB_eq, x_nil, x_cons, x_set, x_own, x_par, x_ret, x_ite, x_frz, e_v, e_c, e_yes, e_tup, e_lst, e_bin, e_cmp, e_isN, e_notN, e_and, e_or, e_not, e_ite, e_ix, e_slT, e_b1, e_b2, e_call, e_nil, e_cons, lft_some, un1_some, bi2_some, tB1_some, pk_t, pk_f, anK_t, anK_f, orK_t, orK_f, notK_some, csK_some, csM_some, mk1_some, clK_some, thS_nx, thS_rt, stG_some, nxT_some, rtG_some, bG_n, bG_t, bG_l, bsG_some, bs_nil, bs_cons, pr2_some, pr1_some, enR_rt, enR_nx, rd, List.map_cons, List.map_nil, List.length_cons, List.length_nil, Nat.reduceAdd, Nat.reduceSub, List.replicate, List.cons_append, List.nil_append, List.set_cons_zero, List.set_cons_succ, List.getD_cons_zero, List.getD_cons_succ]
  rw [lp]
  cases (prods n m).find? B <;> simp only [runB_eq, x_nil, x_cons, x_set, x_own, x_par, x_ret, x_ite, x_frz, e_v, e_c, e_yes, e_tup, e_lst, e_bin, e_cmp, e_isN, e_notN, e_and, e_or, e_not, e_ite, e_ix, e_slT, e_b1, e_b2, e_call, e_nil, e_cons, lft_some, un1_some, bi2_some, tB1_some, pk_t, pk_f, anK_t, anK_f, orK_t, orK_f, notK_some, csK_some, csM_some, mk1_some, clK_some, thS_nx, thS_rt, stG_some, nxT_some, rtG_some, bG_n, bG_t, bG_l, bsG_some, bs_nil, bs_cons, pr2_some, pr1_some, enR_rt, enR_nx, rd, List.map_cons, List.map_nil, List.length_cons, List.length_nil, Nat.reduceAdd, Nat.reduceSub, List.replicate, List.cons_append, List.nil_append, List.set_cons_zero, List.set_cons_succ, List.getD_cons_zero, List.getD_cons_succ, told]
end
end K69
set_option Elab.async false
set_option linter.all false
set_option maxRecDepth 100000
set_option maxHeartbeats 2000000
namespace K69
open PySem Ev
section
variable {n m : Nat} {tb : List Nat} {w : Str} {B : List Nat → Bool}
def more (n : Nat) (rows : List (List Nat)) : List (List Nat) := rows.flatMap fun row => (List.range n).map fun v => row ++ [v]
theorem more_len (n : Nat) (rows : List (List Nat)) : (more n rows).length = rows.length * n := flat_len n _ rows
def inB : List IS := [.ext 7 (.comp [9] (.n 9) .r1 [(.v 2)] .yes (.bin .add (.v 8) (.tup [(.v 9)])))]
theorem inner_ok (k : Nat) (hn : n ≤ 6) (x0 x1 x3 x5 : Option D) (rows : List (List Nat)) (hr : ∀ r ∈ rows, r.length ≤ 4) (hl : rows.length ≤ 1296) (τ : Tape) :
    execS (callF P k) (.for (.n 8) .seq [(.v 4)] inB [8] [.p, .p, .p, .p, .p, .p, .u, .o, .u, .u]) [x0, x1, some (nI n), x3, some (.list (rows.map encT)), x5, none, some (.list []), none, none] τ
      = some (.nx [x0, x1, some (nI n), x3, some (.list (rows.map encT)), x5, none, some (.list ((more n rows).map encT)), none, none] τ) := by
  refine for_pre (cf := callF P k) (τ := τ) rows encT (fun p => [x0, x1, some (nI n), x3, some (.list (rows.map encT)), x5, none, some (.list ((more n p).map encT)), none, none]) (ds := [.list (rows.map encT)]) (by simp only [runB_eq, x_nil, x_cons, x_set, x_own, x_par, x_ret, x_ite, x_frz, e_v, e_c, e_yes, e_tup, e_lst, e_bin, e_cmp, e_isN, e_notN, e_and, e_or, e_not, e_ite, e_ix, e_slT, e_b1, e_b2, e_call, e_nil, e_cons, lft_some, un1_some, bi2_some, tB1_some, pk_t, pk_f, anK_t, anK_f, orK_t, orK_f, notK_some, csK_some, csM_some, mk1_some, clK_some, thS_nx, thS_rt, stG_some, nxT_some, rtG_some, bG_n, bG_t, bG_l, bsG_some, bs_nil, bs_cons, pr2_some, pr1_some, enR_rt, enR_nx, rd, List.map_cons, List.map_nil, List.length_cons, List.length_nil, Nat.reduceAdd, Nat.reduceSub, List.replicate, List.cons_append, List.nil_append, List.set_cons_zero, List.set_cons_succ, List.getD_cons_zero, List.getD_cons_succ]) (seq_l _) fun p row q e => ?_
  have hrow : row.length ≤ 4 := hr row (by rw [e]; simp)
  have hp : p.length < rows.length := by rw [e]; simp
  refine ⟨[x0, x1, some (nI n), x3, some (.list (rows.map encT)), x5, none, some (.list ((more n p).map encT)), some (encT row), none], [x0, x1, some (nI n), x3, some (.list (rows.map encT)), x5, none, some (.list ((more n (p ++ [row])).map encT)), some (encT row), none], by simp only [bindT]; rfl, ?_, rfl⟩
  · have c := comp_r (cf := callF P k) (γ := [x0, x1, some (nI n), x3, some (.list (rows.map encT)), x5, none, some (.list ((more n p).map encT)), some (encT row), none]) (τ := τ) (i := 9) (n := n) (a := .v 2) (cond := .yes) (elt := .bin .add (.v 8) (.tup [(.v 9)])) (c := fun _ => true) (y := fun v => encT (row ++ [v])) (by omega) (by simp only [runB_eq, x_nil, x_cons, x_set, x_own, x_par, x_ret, x_ite, x_frz, e_v, e_c, e_yes, e_tup, e_lst, e_bin, e_cmp, e_isN, e_notN, e_and, e_or, e_not, e_ite, e_ix, e_slT, e_b1, e_b2, e_call, e_nil, e_cons, lft_some, un1_some, bi2_some, tB1_some, pk_t, pk_f, anK_t, anK_f, orK_t, orK_f, notK_some, csK_some, csM_some, mk1_some, clK_some, thS_nx, thS_rt, stG_some, nxT_some, rtG_some, bG_n, bG_t, bG_l, bsG_some, bs_nil, bs_cons, pr2_some, pr1_some, enR_rt, enR_nx, rd, List.map_cons, List.map_nil, List.length_cons, List.length_nil, Nat.reduceAdd, Nat.reduceSub, List.replicate, List.cons_append, List.nil_append, List.set_cons_zero, List.set_cons_succ, List.getD_cons_zero, List.getD_cons_succ])
      fun v hv => ⟨by simp only [tst, evalE, Option.bind_some, truth, Option.map_some], fun _ => by
        simp only [runB_eq, x_nil, x_cons, x_set, x_own, x_par, x_ret, x_ite, x_frz, e_v, e_c, e_yes, e_tup, e_lst, e_bin, e_cmp, e_isN, e_notN, e_and, e_or, e_not, e_ite, e_ix, e_slT, e_b1, e_b2, e_call, e_nil, e_cons, lft_some, un1_some, bi2_some, tB1_some, pk_t, pk_f, anK_t, anK_f, orK_t, orK_f, notK_some, csK_some, csM_some, mk1_some, clK_some, thS_nx, thS_rt, stG_some, nxT_some, rtG_some, bG_n, bG_t, bG_l, bsG_some, bs_nil, bs_cons, pr2_some, pr1_some, enR_rt, enR_nx, rd, List.map_cons, List.map_nil, List.length_cons, List.length_nil, Nat.reduceAdd, Nat.reduceSub, List.replicate, List.cons_append, List.nil_append, List.set_cons_zero, List.set_cons_succ, List.getD_cons_zero, List.getD_cons_succ]
        rw [add_row (by omega), lft_some]⟩
    rw [filt_true] at c
    have em : (more n (p ++ [row])).map encT = (more n p).map encT ++ (List.range n).map (fun v => encT (row ++ [v])) := by
      unfold more
      rw [List.flatMap_append, List.map_append]
      congr 1
      simp only [List.flatMap_cons, List.flatMap_nil, List.append_nil, List.map_map]
      rfl
    have x := x_ext (i := 7) c (xs := (more n p).map encT) rfl (by
      rw [List.length_map, List.length_map, List.length_range, more_len]
      refine line_ok ?_
      have : p.length * n ≤ 1296 * 6 := Nat.mul_le_mul (by omega) hn
      omega)
    simp only [inB, x_cons, x, runB_eq, x_nil, x_cons, x_set, x_own, x_par, x_ret, x_ite, x_frz, e_v, e_c, e_yes, e_tup, e_lst, e_bin, e_cmp, e_isN, e_notN, e_and, e_or, e_not, e_ite, e_ix, e_slT, e_b1, e_b2, e_call, e_nil, e_cons, lft_some, un1_some, bi2_some, tB1_some, pk_t, pk_f, anK_t, anK_f, orK_t, orK_f, notK_some, csK_some, csM_some, mk1_some, clK_some, thS_nx, thS_rt, stG_some, nxT_some, rtG_some, bG_n, bG_t, bG_l, bsG_some, bs_nil, bs_cons, pr2_some, pr1_some, enR_rt, enR_nx, rd, List.map_cons, List.map_nil, List.length_cons, List.length_nil, Nat.reduceAdd, Nat.reduceSub, List.replicate, List.cons_append, List.nil_append, List.set_cons_zero, List.set_cons_succ, List.getD_cons_zero, List.getD_cons_succ, em]
theorem lawof_ok (k : Nat) (V : Val n tb) (h : Word n tb w m B) (τ : Tape) : callF P (k + 2) 17 [.str w, tT tb, nI n] τ = some (told ((prods n m).find? B), τ) := by
  have hk : lastK [("assoc", (.int 3)), ("comm", (.int 2)), ("idem", (.int 1)), ("medial", (.int 4)), ("leftdist", (.int 3)), ("cancel", (.int 3)), ("divide", (.int 2))] w = some (nI m) := h.lk
  have lp := for_pre (cf := callF P (k + 1)) (τ := τ) (tg := .n 5) (k := .r1) (args := [.v 3]) (b := [.own 7 .o (.lst []), .for (.n 8) .seq [(.v 4)] inB [8] [.p, .p, .p, .p, .p, .p, .u, .o, .u, .u], .frz 7, .set (.n 4) (.v 7)]) (ks := [5, 7, 8]) (G := [.p, .p, .p, .p, .p, .u, .u, .u, .u, .u])
    (List.range m) nI (fun p => [some (.str w), some (tT tb), some (nI n), some (nI m), some (.list ((prods n p.length).map encT)), none, none, none, none, none]) (ds := [nI m]) (by simp only [runB_eq, x_nil, x_cons, x_set, x_own, x_par, x_ret, x_ite, x_frz, e_v, e_c, e_yes, e_tup, e_lst, e_bin, e_cmp, e_isN, e_notN, e_and, e_or, e_not, e_ite, e_ix, e_slT, e_b1, e_b2, e_call, e_nil, e_cons, lft_some, un1_some, bi2_some, tB1_some, pk_t, pk_f, anK_t, anK_f, orK_t, orK_f, notK_some, csK_some, csM_some, mk1_some, clK_some, thS_nx, thS_rt, stG_some, nxT_some, rtG_some, bG_n, bG_t, bG_l, bsG_some, bs_nil, bs_cons, pr2_some, pr1_some, enR_rt, enR_nx, rd, List.map_cons, List.map_nil, List.length_cons, List.length_nil, Nat.reduceAdd, Nat.reduceSub, List.replicate, List.cons_append, List.nil_append, List.set_cons_zero, List.set_cons_succ, List.getD_cons_zero, List.getD_cons_succ]) (range_n m (by have := h.hm; omega)) fun p x q e => by
      have hp : p.length + 1 ≤ 4 := by
        have := congrArg List.length e
        rw [List.length_range, List.length_append, List.length_cons] at this
        have := h.hm
        omega
      refine ⟨[some (.str w), some (tT tb), some (nI n), some (nI m), some (.list ((prods n p.length).map encT)), some (nI x), none, none, none, none], [some (.str w), some (tT tb), some (nI n), some (nI m), some (.list ((prods n (p.length + 1)).map encT)), some (nI x), none, some (.list ((prods n (p.length + 1)).map encT)), none, none], by simp only [bindT]; rfl, ?_, ?_⟩
      · have c := inner_ok (k + 1) V.small (some (.str w)) (some (tT tb)) (some (nI m)) (some (nI x)) (prods n p.length) (fun r hr => by rw [(prods_mem hr).1]; omega) (prods_le V.small (by omega)) τ
        simp only [runB_eq, x_nil, x_cons, x_set, x_own, x_par, x_ret, x_ite, x_frz, e_v, e_c, e_yes, e_tup, e_lst, e_bin, e_cmp, e_isN, e_notN, e_and, e_or, e_not, e_ite, e_ix, e_slT, e_b1, e_b2, e_call, e_nil, e_cons, lft_some, un1_some, bi2_some, tB1_some, pk_t, pk_f, anK_t, anK_f, orK_t, orK_f, notK_some, csK_some, csM_some, mk1_some, clK_some, thS_nx, thS_rt, stG_some, nxT_some, rtG_some, bG_n, bG_t, bG_l, bsG_some, bs_nil, bs_cons, pr2_some, pr1_some, enR_rt, enR_nx, rd, List.map_cons, List.map_nil, List.length_cons, List.length_nil, Nat.reduceAdd, Nat.reduceSub, List.replicate, List.cons_append, List.nil_append, List.set_cons_zero, List.set_cons_succ, List.getD_cons_zero, List.getD_cons_succ, c]
        rfl
      · show _ = [some (.str w), some (tT tb), some (nI n), some (nI m), some (.list ((prods n (p ++ [x]).length).map encT)), none, none, none, none, none]
        rw [List.length_append]
        rfl
  rw [List.length_range] at lp
  have lq := for_hit (cf := callF P (k + 1)) (γ := [some (.str w), some (tT tb), some (nI n), some (nI m), some (.list ((prods n m).map encT)), none, none, none, none, none]) (τ := τ) (tg := .n 6) (k := .seq) (args := [.v 4]) (b := [.ite (.call 16 [(.v 0), (.v 1), (.v 2), (.v 6)]) [.ret (.tup [(.c (.str "breaks")), (.v 6)])] []]) (ks := [6]) (G := [.p, .p, .p, .p, .p, .u, .u, .u, .u, .u])
    (prods n m) encT B (fun r => .tuple [.str "breaks", encT r]) (ds := [.list ((prods n m).map encT)]) (by simp only [runB_eq, x_nil, x_cons, x_set, x_own, x_par, x_ret, x_ite, x_frz, e_v, e_c, e_yes, e_tup, e_lst, e_bin, e_cmp, e_isN, e_notN, e_and, e_or, e_not, e_ite, e_ix, e_slT, e_b1, e_b2, e_call, e_nil, e_cons, lft_some, un1_some, bi2_some, tB1_some, pk_t, pk_f, anK_t, anK_f, orK_t, orK_f, notK_some, csK_some, csM_some, mk1_some, clK_some, thS_nx, thS_rt, stG_some, nxT_some, rtG_some, bG_n, bG_t, bG_l, bsG_some, bs_nil, bs_cons, pr2_some, pr1_some, enR_rt, enR_nx, rd, List.map_cons, List.map_nil, List.length_cons, List.length_nil, Nat.reduceAdd, Nat.reduceSub, List.replicate, List.cons_append, List.nil_append, List.set_cons_zero, List.set_cons_succ, List.getD_cons_zero, List.getD_cons_succ]) (seq_l _) (fun row hr => ⟨[some (.str w), some (tT tb), some (nI n), some (nI m), some (.list ((prods n m).map encT)), none, some (encT row), none, none, none], by simp only [bindT]; rfl, by
      cases hb : B row with
      | true =>
        rw [if_pos rfl]
        simp only [runB_eq, x_nil, x_cons, x_set, x_own, x_par, x_ret, x_ite, x_frz, e_v, e_c, e_yes, e_tup, e_lst, e_bin, e_cmp, e_isN, e_notN, e_and, e_or, e_not, e_ite, e_ix, e_slT, e_b1, e_b2, e_call, e_nil, e_cons, lft_some, un1_some, bi2_some, tB1_some, pk_t, pk_f, anK_t, anK_f, orK_t, orK_f, notK_some, csK_some, csM_some, mk1_some, clK_some, thS_nx, thS_rt, stG_some, nxT_some, rtG_some, bG_n, bG_t, bG_l, bsG_some, bs_nil, bs_cons, pr2_some, pr1_some, enR_rt, enR_nx, rd, List.map_cons, List.map_nil, List.length_cons, List.length_nil, Nat.reduceAdd, Nat.reduceSub, List.replicate, List.cons_append, List.nil_append, List.set_cons_zero, List.set_cons_succ, List.getD_cons_zero, List.getD_cons_succ, h.lb k τ row hr, hb]
      | false =>
        rw [if_neg Bool.false_ne_true]
        exact ⟨_, by simp only [runB_eq, x_nil, x_cons, x_set, x_own, x_par, x_ret, x_ite, x_frz, e_v, e_c, e_yes, e_tup, e_lst, e_bin, e_cmp, e_isN, e_notN, e_and, e_or, e_not, e_ite, e_ix, e_slT, e_b1, e_b2, e_call, e_nil, e_cons, lft_some, un1_some, bi2_some, tB1_some, pk_t, pk_f, anK_t, anK_f, orK_t, orK_f, notK_some, csK_some, csM_some, mk1_some, clK_some, thS_nx, thS_rt, stG_some, nxT_some, rtG_some, bG_n, bG_t, bG_l, bsG_some, bs_nil, bs_cons, pr2_some, pr1_some, enR_rt, enR_nx, rd, List.map_cons, List.map_nil, List.length_cons, List.length_nil, Nat.reduceAdd, Nat.reduceSub, List.replicate, List.cons_append, List.nil_append, List.set_cons_zero, List.set_cons_succ, List.getD_cons_zero, List.getD_cons_succ, h.lb k τ row hr, hb]; rfl, rfl⟩⟩)
  unfold inB at lp
  have e0 : (some (PyData.list [PyData.tuple []]) : Option D) = some (.list ((prods n ([] : List Nat).length).map encT)) := rfl
  simp only [c17, ir__law_of, runB_eq, x_nil, x_cons, x_set, x_own, x_par, x_ret, x_ite, x_frz, e_v, e_c, e_yes, e_tup, e_lst, e_bin, e_cmp, e_isN, e_notN, e_and, e_or, e_not, e_ite, e_ix, e_slT, e_b1, e_b2, e_call, e_nil, e_cons, lft_some, un1_some, bi2_some, tB1_some, pk_t, pk_f, anK_t, anK_f, orK_t, orK_f, notK_some, csK_some, csM_some, mk1_some, clK_some, thS_nx, thS_rt, stG_some, nxT_some, rtG_some, bG_n, bG_t, bG_l, bsG_some, bs_nil, bs_cons, pr2_some, pr1_some, enR_rt, enR_nx, rd, List.map_cons, List.map_nil, List.length_cons, List.length_nil, Nat.reduceAdd, Nat.reduceSub, List.replicate, List.cons_append, List.nil_append, List.set_cons_zero, List.set_cons_succ, List.getD_cons_zero, List.getD_cons_succ, e_dcst, strOf_str, Option.bind_some, hk]
  rw [e0, lp]
  simp only [runB_eq, x_nil, x_cons, x_set, x_own, x_par, x_ret, x_ite, x_frz, e_v, e_c, e_yes, e_tup, e_lst, e_bin, e_cmp, e_isN, e_notN, e_and, e_or, e_not, e_ite, e_ix, e_slT, e_b1, e_b2, e_call, e_nil, e_cons, lft_some, un1_some, bi2_some, tB1_some, pk_t, pk_f, anK_t, anK_f, orK_t, orK_f, notK_some, csK_some, csM_some, mk1_some, clK_some, thS_nx, thS_rt, stG_some, nxT_some, rtG_some, bG_n, bG_t, bG_l, bsG_some, bs_nil, bs_cons, pr2_some, pr1_some, enR_rt, enR_nx, rd, List.map_cons, List.map_nil, List.length_cons, List.length_nil, Nat.reduceAdd, Nat.reduceSub, List.replicate, List.cons_append, List.nil_append, List.set_cons_zero, List.set_cons_succ, List.getD_cons_zero, List.getD_cons_succ]
  rw [lq]
  cases (prods n m).find? B <;> simp only [runB_eq, x_nil, x_cons, x_set, x_own, x_par, x_ret, x_ite, x_frz, e_v, e_c, e_yes, e_tup, e_lst, e_bin, e_cmp, e_isN, e_notN, e_and, e_or, e_not, e_ite, e_ix, e_slT, e_b1, e_b2, e_call, e_nil, e_cons, lft_some, un1_some, bi2_some, tB1_some, pk_t, pk_f, anK_t, anK_f, orK_t, orK_f, notK_some, csK_some, csM_some, mk1_some, clK_some, thS_nx, thS_rt, stG_some, nxT_some, rtG_some, bG_n, bG_t, bG_l, bsG_some, bs_nil, bs_cons, pr2_some, pr1_some, enR_rt, enR_nx, rd, List.map_cons, List.map_nil, List.length_cons, List.length_nil, Nat.reduceAdd, Nat.reduceSub, List.replicate, List.cons_append, List.nil_append, List.set_cons_zero, List.set_cons_succ, List.getD_cons_zero, List.getD_cons_succ, told]
end
end K69
set_option Elab.async false
set_option linter.all false
set_option maxRecDepth 100000
set_option maxHeartbeats 2000000
namespace K69
open PySem Ev
theorem row1 {n : Nat} {row : List Nat} (h : row ∈ prods n 1) : ∃ a, row = [a] ∧ a < n := by
  obtain ⟨h1, h2⟩ := prods_mem h
  match row, h1, h2 with
  | [a], _, h2 => exact ⟨a, rfl, h2 a (by simp)⟩
theorem row2 {n : Nat} {row : List Nat} (h : row ∈ prods n 2) : ∃ a b, row = [a, b] ∧ a < n ∧ b < n := by
  obtain ⟨h1, h2⟩ := prods_mem h
  match row, h1, h2 with
  | [a, b], _, h2 => exact ⟨a, b, rfl, h2 a (by simp), h2 b (by simp)⟩
theorem row3 {n : Nat} {row : List Nat} (h : row ∈ prods n 3) : ∃ a b c, row = [a, b, c] ∧ a < n ∧ b < n ∧ c < n := by
  obtain ⟨h1, h2⟩ := prods_mem h
  match row, h1, h2 with
  | [a, b, c], _, h2 => exact ⟨a, b, c, rfl, h2 a (by simp), h2 b (by simp), h2 c (by simp)⟩
theorem row4 {n : Nat} {row : List Nat} (h : row ∈ prods n 4) : ∃ a b c d, row = [a, b, c, d] ∧ a < n ∧ b < n ∧ c < n ∧ d < n := by
  obtain ⟨h1, h2⟩ := prods_mem h
  match row, h1, h2 with
  | [a, b, c, d], _, h2 => exact ⟨a, b, c, d, rfl, h2 a (by simp), h2 b (by simp), h2 c (by simp), h2 d (by simp)⟩
def B_assoc (tb : List Nat) (n : Nat) : List Nat → Bool
  | [a, b, c] => !decide (o tb n (o tb n a b) c = o tb n a (o tb n b c))
  | _ => false
theorem w_assoc {n : Nat} {tb : List Nat} (V : Val n tb) : Word n tb "assoc" 3 (B_assoc tb n) where
  lk := by kernel_rfl
  hm := by decide
  br := fun k τ row hr => by
    obtain ⟨a, b, c, rfl, ha, hb, hc⟩ := row3 hr
    exact brk_assoc k V ha hb hc τ
  lb := fun k τ row hr => by
    obtain ⟨a, b, c, rfl, ha, hb, hc⟩ := row3 hr
    exact lb_assoc k V ha hb hc τ
def B_comm (tb : List Nat) (n : Nat) : List Nat → Bool
  | [a, b] => !decide (o tb n a b = o tb n b a)
  | _ => false
theorem w_comm {n : Nat} {tb : List Nat} (V : Val n tb) : Word n tb "comm" 2 (B_comm tb n) where
  lk := by kernel_rfl
  hm := by decide
  br := fun k τ row hr => by
    obtain ⟨a, b, rfl, ha, hb⟩ := row2 hr
    exact brk_comm k V ha hb τ
  lb := fun k τ row hr => by
    obtain ⟨a, b, rfl, ha, hb⟩ := row2 hr
    exact lb_comm k V ha hb τ
def B_idem (tb : List Nat) (n : Nat) : List Nat → Bool
  | [a] => !decide (o tb n a a = a)
  | _ => false
theorem w_idem {n : Nat} {tb : List Nat} (V : Val n tb) : Word n tb "idem" 1 (B_idem tb n) where
  lk := by kernel_rfl
  hm := by decide
  br := fun k τ row hr => by
    obtain ⟨a, rfl, ha⟩ := row1 hr
    exact brk_idem k V ha τ
  lb := fun k τ row hr => by
    obtain ⟨a, rfl, ha⟩ := row1 hr
    exact lb_idem k V ha τ
def B_medial (tb : List Nat) (n : Nat) : List Nat → Bool
  | [a, b, c, d] => !decide (o tb n (o tb n a b) (o tb n c d) = o tb n (o tb n a c) (o tb n b d))
  | _ => false
theorem w_medial {n : Nat} {tb : List Nat} (V : Val n tb) : Word n tb "medial" 4 (B_medial tb n) where
  lk := by kernel_rfl
  hm := by decide
  br := fun k τ row hr => by
    obtain ⟨a, b, c, d, rfl, ha, hb, hc, hd⟩ := row4 hr
    exact brk_medial k V ha hb hc hd τ
  lb := fun k τ row hr => by
    obtain ⟨a, b, c, d, rfl, ha, hb, hc, hd⟩ := row4 hr
    exact lb_medial k V ha hb hc hd τ
def B_leftdist (tb : List Nat) (n : Nat) : List Nat → Bool
  | [a, b, c] => !decide (o tb n a (o tb n b c) = o tb n (o tb n a b) (o tb n a c))
  | _ => false
theorem w_leftdist {n : Nat} {tb : List Nat} (V : Val n tb) : Word n tb "leftdist" 3 (B_leftdist tb n) where
  lk := by kernel_rfl
  hm := by decide
  br := fun k τ row hr => by
    obtain ⟨a, b, c, rfl, ha, hb, hc⟩ := row3 hr
    exact brk_leftdist k V ha hb hc τ
  lb := fun k τ row hr => by
    obtain ⟨a, b, c, rfl, ha, hb, hc⟩ := row3 hr
    exact lb_leftdist k V ha hb hc τ
def B_cancel (tb : List Nat) (n : Nat) : List Nat → Bool
  | [a, b, c] => !decide (b = c) && (decide (o tb n a b = o tb n a c) || decide (o tb n b a = o tb n c a))
  | _ => false
theorem w_cancel {n : Nat} {tb : List Nat} (V : Val n tb) : Word n tb "cancel" 3 (B_cancel tb n) where
  lk := by kernel_rfl
  hm := by decide
  br := fun k τ row hr => by
    obtain ⟨a, b, c, rfl, ha, hb, hc⟩ := row3 hr
    exact brk_cancel k V ha hb hc τ
  lb := fun k τ row hr => by
    obtain ⟨a, b, c, rfl, ha, hb, hc⟩ := row3 hr
    exact lb_cancel k V ha hb hc τ
def B_divide (tb : List Nat) (n : Nat) : List Nat → Bool
  | [a, b] => divB tb n a b
  | _ => false
theorem w_divide {n : Nat} {tb : List Nat} (V : Val n tb) : Word n tb "divide" 2 (B_divide tb n) where
  lk := by kernel_rfl
  hm := by decide
  br := fun k τ row hr => by
    obtain ⟨a, b, rfl, ha, hb⟩ := row2 hr
    exact brk_divide k V ha hb τ
  lb := fun k τ row hr => by
    obtain ⟨a, b, rfl, ha, hb⟩ := row2 hr
    exact lb_divide k V ha hb τ
/-! ### units, zeros, the centre .. -/
section
variable {n : Nat} {tb : List Nat}
def uni (tb : List Nat) (n e : Nat) : Bool := (List.range n).all fun a => decide (o tb n e a = a) && decide (a = o tb n a e)
def optN : Option Nat → D
  | some x => nI x
  | none => .none
theorem unit_ok (k : Nat) (V : Val n tb) (τ : Tape) : callF P (k + 2) 6 [tT tb, nI n] τ = some (optN ((List.range n).find? (uni tb n)), τ) := by
  have lp := for_find (cf := callF P (k + 1)) (γ := [some (tT tb), some (nI n), none, none]) (τ := τ) (i := 2) (n := n) (a := .v 1) (b := [.ite (.b1 .all (.comp [3] (.n 3) .r1 [(.v 1)] .yes (.cmp2 .eq .eq (.call 0 [(.v 0), (.v 1), (.v 2), (.v 3)]) (.v 3) (.call 0 [(.v 0), (.v 1), (.v 3), (.v 2)])))) [.ret (.v 2)] []]) (ks := [2]) (G := [.p, .p, .u, .u]) (p := uni tb n) (r := nI) (nmil V) (by simp only [runB_eq, x_nil, x_cons, x_set, x_own, x_par, x_ret, x_ite, x_frz, e_v, e_c, e_yes, e_tup, e_lst, e_bin, e_cmp, e_isN, e_notN, e_and, e_or, e_not, e_ite, e_ix, e_slT, e_b1, e_b2, e_call, e_nil, e_cons, lft_some, un1_some, bi2_some, tB1_some, pk_t, pk_f, anK_t, anK_f, orK_t, orK_f, notK_some, csK_some, csM_some, mk1_some, clK_some, thS_nx, thS_rt, stG_some, nxT_some, rtG_some, bG_n, bG_t, bG_l, bsG_some, bs_nil, bs_cons, pr2_some, pr1_some, enR_rt, enR_nx, rd, List.map_cons, List.map_nil, List.length_cons, List.length_nil, Nat.reduceAdd, Nat.reduceSub, List.replicate, List.cons_append, List.nil_append, List.set_cons_zero, List.set_cons_succ, List.getD_cons_zero, List.getD_cons_succ]) fun x hx => by
    have c := all_r (cf := callF P (k + 1)) (γ := [some (tT tb), some (nI n), some (nI x), none]) (τ := τ) (i := 3) (n := n) (a := .v 1) (elt := .cmp2 .eq .eq (.call 0 [(.v 0), (.v 1), (.v 2), (.v 3)]) (.v 3) (.call 0 [(.v 0), (.v 1), (.v 3), (.v 2)])) (p := fun a => decide (o tb n x a = a) && decide (a = o tb n a x)) (nmil V) (by simp only [runB_eq, x_nil, x_cons, x_set, x_own, x_par, x_ret, x_ite, x_frz, e_v, e_c, e_yes, e_tup, e_lst, e_bin, e_cmp, e_isN, e_notN, e_and, e_or, e_not, e_ite, e_ix, e_slT, e_b1, e_b2, e_call, e_nil, e_cons, lft_some, un1_some, bi2_some, tB1_some, pk_t, pk_f, anK_t, anK_f, orK_t, orK_f, notK_some, csK_some, csM_some, mk1_some, clK_some, thS_nx, thS_rt, stG_some, nxT_some, rtG_some, bG_n, bG_t, bG_l, bsG_some, bs_nil, bs_cons, pr2_some, pr1_some, enR_rt, enR_nx, rd, List.map_cons, List.map_nil, List.length_cons, List.length_nil, Nat.reduceAdd, Nat.reduceSub, List.replicate, List.cons_append, List.nil_append, List.set_cons_zero, List.set_cons_succ, List.getD_cons_zero, List.getD_cons_succ])
      fun a ha => e_cmp2 (by simp only [runB_eq, x_nil, x_cons, x_set, x_own, x_par, x_ret, x_ite, x_frz, e_v, e_c, e_yes, e_tup, e_lst, e_bin, e_cmp, e_isN, e_notN, e_and, e_or, e_not, e_ite, e_ix, e_slT, e_b1, e_b2, e_call, e_nil, e_cons, lft_some, un1_some, bi2_some, tB1_some, pk_t, pk_f, anK_t, anK_f, orK_t, orK_f, notK_some, csK_some, csM_some, mk1_some, clK_some, thS_nx, thS_rt, stG_some, nxT_some, rtG_some, bG_n, bG_t, bG_l, bsG_some, bs_nil, bs_cons, pr2_some, pr1_some, enR_rt, enR_nx, rd, List.map_cons, List.map_nil, List.length_cons, List.length_nil, Nat.reduceAdd, Nat.reduceSub, List.replicate, List.cons_append, List.nil_append, List.set_cons_zero, List.set_cons_succ, List.getD_cons_zero, List.getD_cons_succ, times_ok k V, hx, ha]) (by simp only [runB_eq, x_nil, x_cons, x_set, x_own, x_par, x_ret, x_ite, x_frz, e_v, e_c, e_yes, e_tup, e_lst, e_bin, e_cmp, e_isN, e_notN, e_and, e_or, e_not, e_ite, e_ix, e_slT, e_b1, e_b2, e_call, e_nil, e_cons, lft_some, un1_some, bi2_some, tB1_some, pk_t, pk_f, anK_t, anK_f, orK_t, orK_f, notK_some, csK_some, csM_some, mk1_some, clK_some, thS_nx, thS_rt, stG_some, nxT_some, rtG_some, bG_n, bG_t, bG_l, bsG_some, bs_nil, bs_cons, pr2_some, pr1_some, enR_rt, enR_nx, rd, List.map_cons, List.map_nil, List.length_cons, List.length_nil, Nat.reduceAdd, Nat.reduceSub, List.replicate, List.cons_append, List.nil_append, List.set_cons_zero, List.set_cons_succ, List.getD_cons_zero, List.getD_cons_succ]) (by simp only [runB_eq, x_nil, x_cons, x_set, x_own, x_par, x_ret, x_ite, x_frz, e_v, e_c, e_yes, e_tup, e_lst, e_bin, e_cmp, e_isN, e_notN, e_and, e_or, e_not, e_ite, e_ix, e_slT, e_b1, e_b2, e_call, e_nil, e_cons, lft_some, un1_some, bi2_some, tB1_some, pk_t, pk_f, anK_t, anK_f, orK_t, orK_f, notK_some, csK_some, csM_some, mk1_some, clK_some, thS_nx, thS_rt, stG_some, nxT_some, rtG_some, bG_n, bG_t, bG_l, bsG_some, bs_nil, bs_cons, pr2_some, pr1_some, enR_rt, enR_nx, rd, List.map_cons, List.map_nil, List.length_cons, List.length_nil, Nat.reduceAdd, Nat.reduceSub, List.replicate, List.cons_append, List.nil_append, List.set_cons_zero, List.set_cons_succ, List.getD_cons_zero, List.getD_cons_succ, times_ok k V, hx, ha])
    have c2 := (e_b1 _ _ _ _ _).symm.trans c
    by_cases q : uni tb n x = true
    · rw [if_pos q]
      have q2 : ((List.range n).all fun a => decide (o tb n x a = a) && decide (a = o tb n a x)) = true := q
      simp only [runB_eq, x_nil, x_cons, x_set, x_own, x_par, x_ret, x_ite, x_frz, e_v, e_c, e_yes, e_tup, e_lst, e_bin, e_cmp, e_isN, e_notN, e_and, e_or, e_not, e_ite, e_ix, e_slT, e_b1, e_b2, e_call, e_nil, e_cons, lft_some, un1_some, bi2_some, tB1_some, pk_t, pk_f, anK_t, anK_f, orK_t, orK_f, notK_some, csK_some, csM_some, mk1_some, clK_some, thS_nx, thS_rt, stG_some, nxT_some, rtG_some, bG_n, bG_t, bG_l, bsG_some, bs_nil, bs_cons, pr2_some, pr1_some, enR_rt, enR_nx, rd, List.map_cons, List.map_nil, List.length_cons, List.length_nil, Nat.reduceAdd, Nat.reduceSub, List.replicate, List.cons_append, List.nil_append, List.set_cons_zero, List.set_cons_succ, List.getD_cons_zero, List.getD_cons_succ, c2, q2]
    · rw [if_neg q]
      have q2 : ((List.range n).all fun a => decide (o tb n x a = a) && decide (a = o tb n a x)) = false := by rw [Bool.not_eq_true] at q; exact q
      exact ⟨_, by simp only [runB_eq, x_nil, x_cons, x_set, x_own, x_par, x_ret, x_ite, x_frz, e_v, e_c, e_yes, e_tup, e_lst, e_bin, e_cmp, e_isN, e_notN, e_and, e_or, e_not, e_ite, e_ix, e_slT, e_b1, e_b2, e_call, e_nil, e_cons, lft_some, un1_some, bi2_some, tB1_some, pk_t, pk_f, anK_t, anK_f, orK_t, orK_f, notK_some, csK_some, csM_some, mk1_some, clK_some, thS_nx, thS_rt, stG_some, nxT_some, rtG_some, bG_n, bG_t, bG_l, bsG_some, bs_nil, bs_cons, pr2_some, pr1_some, enR_rt, enR_nx, rd, List.map_cons, List.map_nil, List.length_cons, List.length_nil, Nat.reduceAdd, Nat.reduceSub, List.replicate, List.cons_append, List.nil_append, List.set_cons_zero, List.set_cons_succ, List.getD_cons_zero, List.getD_cons_succ, c2, q2]; rfl, rfl⟩
  simp only [c6, ir_unit_of, runB_eq, x_nil, x_cons, x_set, x_own, x_par, x_ret, x_ite, x_frz, e_v, e_c, e_yes, e_tup, e_lst, e_bin, e_cmp, e_isN, e_notN, e_and, e_or, e_not, e_ite, e_ix, e_slT, e_b1, e_b2, e_call, e_nil, e_cons, lft_some, un1_some, bi2_some, tB1_some, pk_t, pk_f, anK_t, anK_f, orK_t, orK_f, notK_some, csK_some, csM_some, mk1_some, clK_some, thS_nx, thS_rt, stG_some, nxT_some, rtG_some, bG_n, bG_t, bG_l, bsG_some, bs_nil, bs_cons, pr2_some, pr1_some, enR_rt, enR_nx, rd, List.map_cons, List.map_nil, List.length_cons, List.length_nil, Nat.reduceAdd, Nat.reduceSub, List.replicate, List.cons_append, List.nil_append, List.set_cons_zero, List.set_cons_succ, List.getD_cons_zero, List.getD_cons_succ]
  rw [lp]
  cases (List.range n).find? (uni tb n) <;> simp only [runB_eq, x_nil, x_cons, x_set, x_own, x_par, x_ret, x_ite, x_frz, e_v, e_c, e_yes, e_tup, e_lst, e_bin, e_cmp, e_isN, e_notN, e_and, e_or, e_not, e_ite, e_ix, e_slT, e_b1, e_b2, e_call, e_nil, e_cons, lft_some, un1_some, bi2_some, tB1_some, pk_t, pk_f, anK_t, anK_f, orK_t, orK_f, notK_some, csK_some, csM_some, mk1_some, clK_some, thS_nx, thS_rt, stG_some, nxT_some, rtG_some, bG_n, bG_t, bG_l, bsG_some, bs_nil, bs_cons, pr2_some, pr1_some, enR_rt, enR_nx, rd, List.map_cons, List.map_nil, List.length_cons, List.length_nil, Nat.reduceAdd, Nat.reduceSub, List.replicate, List.cons_append, List.nil_append, List.set_cons_zero, List.set_cons_succ, List.getD_cons_zero, List.getD_cons_succ, optN]
def zer (tb : List Nat) (n e : Nat) : Bool := (List.range n).all fun a => decide (o tb n e a = e) && decide (e = o tb n a e)
theorem zero_ok (k : Nat) (V : Val n tb) (τ : Tape) : callF P (k + 2) 12 [tT tb, nI n] τ = some (optN ((List.range n).find? (zer tb n)), τ) := by
  have lp := for_find (cf := callF P (k + 1)) (γ := [some (tT tb), some (nI n), none, none]) (τ := τ) (i := 2) (n := n) (a := .v 1) (b := [.ite (.b1 .all (.comp [3] (.n 3) .r1 [(.v 1)] .yes (.cmp2 .eq .eq (.call 0 [(.v 0), (.v 1), (.v 2), (.v 3)]) (.v 2) (.call 0 [(.v 0), (.v 1), (.v 3), (.v 2)])))) [.ret (.v 2)] []]) (ks := [2]) (G := [.p, .p, .u, .u]) (p := zer tb n) (r := nI) (nmil V) (by simp only [runB_eq, x_nil, x_cons, x_set, x_own, x_par, x_ret, x_ite, x_frz, e_v, e_c, e_yes, e_tup, e_lst, e_bin, e_cmp, e_isN, e_notN, e_and, e_or, e_not, e_ite, e_ix, e_slT, e_b1, e_b2, e_call, e_nil, e_cons, lft_some, un1_some, bi2_some, tB1_some, pk_t, pk_f, anK_t, anK_f, orK_t, orK_f, notK_some, csK_some, csM_some, mk1_some, clK_some, thS_nx, thS_rt, stG_some, nxT_some, rtG_some, bG_n, bG_t, bG_l, bsG_some, bs_nil, bs_cons, pr2_some, pr1_some, enR_rt, enR_nx, rd, List.map_cons, List.map_nil, List.length_cons, List.length_nil, Nat.reduceAdd, Nat.reduceSub, List.replicate, List.cons_append, List.nil_append, List.set_cons_zero, List.set_cons_succ, List.getD_cons_zero, List.getD_cons_succ]) fun x hx => by
    have c := all_r (cf := callF P (k + 1)) (γ := [some (tT tb), some (nI n), some (nI x), none]) (τ := τ) (i := 3) (n := n) (a := .v 1) (elt := .cmp2 .eq .eq (.call 0 [(.v 0), (.v 1), (.v 2), (.v 3)]) (.v 2) (.call 0 [(.v 0), (.v 1), (.v 3), (.v 2)])) (p := fun a => decide (o tb n x a = x) && decide (x = o tb n a x)) (nmil V) (by simp only [runB_eq, x_nil, x_cons, x_set, x_own, x_par, x_ret, x_ite, x_frz, e_v, e_c, e_yes, e_tup, e_lst, e_bin, e_cmp, e_isN, e_notN, e_and, e_or, e_not, e_ite, e_ix, e_slT, e_b1, e_b2, e_call, e_nil, e_cons, lft_some, un1_some, bi2_some, tB1_some, pk_t, pk_f, anK_t, anK_f, orK_t, orK_f, notK_some, csK_some, csM_some, mk1_some, clK_some, thS_nx, thS_rt, stG_some, nxT_some, rtG_some, bG_n, bG_t, bG_l, bsG_some, bs_nil, bs_cons, pr2_some, pr1_some, enR_rt, enR_nx, rd, List.map_cons, List.map_nil, List.length_cons, List.length_nil, Nat.reduceAdd, Nat.reduceSub, List.replicate, List.cons_append, List.nil_append, List.set_cons_zero, List.set_cons_succ, List.getD_cons_zero, List.getD_cons_succ])
      fun a ha => e_cmp2 (by simp only [runB_eq, x_nil, x_cons, x_set, x_own, x_par, x_ret, x_ite, x_frz, e_v, e_c, e_yes, e_tup, e_lst, e_bin, e_cmp, e_isN, e_notN, e_and, e_or, e_not, e_ite, e_ix, e_slT, e_b1, e_b2, e_call, e_nil, e_cons, lft_some, un1_some, bi2_some, tB1_some, pk_t, pk_f, anK_t, anK_f, orK_t, orK_f, notK_some, csK_some, csM_some, mk1_some, clK_some, thS_nx, thS_rt, stG_some, nxT_some, rtG_some, bG_n, bG_t, bG_l, bsG_some, bs_nil, bs_cons, pr2_some, pr1_some, enR_rt, enR_nx, rd, List.map_cons, List.map_nil, List.length_cons, List.length_nil, Nat.reduceAdd, Nat.reduceSub, List.replicate, List.cons_append, List.nil_append, List.set_cons_zero, List.set_cons_succ, List.getD_cons_zero, List.getD_cons_succ, times_ok k V, hx, ha]) (by simp only [runB_eq, x_nil, x_cons, x_set, x_own, x_par, x_ret, x_ite, x_frz, e_v, e_c, e_yes, e_tup, e_lst, e_bin, e_cmp, e_isN, e_notN, e_and, e_or, e_not, e_ite, e_ix, e_slT, e_b1, e_b2, e_call, e_nil, e_cons, lft_some, un1_some, bi2_some, tB1_some, pk_t, pk_f, anK_t, anK_f, orK_t, orK_f, notK_some, csK_some, csM_some, mk1_some, clK_some, thS_nx, thS_rt, stG_some, nxT_some, rtG_some, bG_n, bG_t, bG_l, bsG_some, bs_nil, bs_cons, pr2_some, pr1_some, enR_rt, enR_nx, rd, List.map_cons, List.map_nil, List.length_cons, List.length_nil, Nat.reduceAdd, Nat.reduceSub, List.replicate, List.cons_append, List.nil_append, List.set_cons_zero, List.set_cons_succ, List.getD_cons_zero, List.getD_cons_succ]) (by simp only [runB_eq, x_nil, x_cons, x_set, x_own, x_par, x_ret, x_ite, x_frz, e_v, e_c, e_yes, e_tup, e_lst, e_bin, e_cmp, e_isN, e_notN, e_and, e_or, e_not, e_ite, e_ix, e_slT, e_b1, e_b2, e_call, e_nil, e_cons, lft_some, un1_some, bi2_some, tB1_some, pk_t, pk_f, anK_t, anK_f, orK_t, orK_f, notK_some, csK_some, csM_some, mk1_some, clK_some, thS_nx, thS_rt, stG_some, nxT_some, rtG_some, bG_n, bG_t, bG_l, bsG_some, bs_nil, bs_cons, pr2_some, pr1_some, enR_rt, enR_nx, rd, List.map_cons, List.map_nil, List.length_cons, List.length_nil, Nat.reduceAdd, Nat.reduceSub, List.replicate, List.cons_append, List.nil_append, List.set_cons_zero, List.set_cons_succ, List.getD_cons_zero, List.getD_cons_succ, times_ok k V, hx, ha])
    have c2 := (e_b1 _ _ _ _ _).symm.trans c
    by_cases q : zer tb n x = true
    · rw [if_pos q]
      have q2 : ((List.range n).all fun a => decide (o tb n x a = x) && decide (x = o tb n a x)) = true := q
      simp only [runB_eq, x_nil, x_cons, x_set, x_own, x_par, x_ret, x_ite, x_frz, e_v, e_c, e_yes, e_tup, e_lst, e_bin, e_cmp, e_isN, e_notN, e_and, e_or, e_not, e_ite, e_ix, e_slT, e_b1, e_b2, e_call, e_nil, e_cons, lft_some, un1_some, bi2_some, tB1_some, pk_t, pk_f, anK_t, anK_f, orK_t, orK_f, notK_some, csK_some, csM_some, mk1_some, clK_some, thS_nx, thS_rt, stG_some, nxT_some, rtG_some, bG_n, bG_t, bG_l, bsG_some, bs_nil, bs_cons, pr2_some, pr1_some, enR_rt, enR_nx, rd, List.map_cons, List.map_nil, List.length_cons, List.length_nil, Nat.reduceAdd, Nat.reduceSub, List.replicate, List.cons_append, List.nil_append, List.set_cons_zero, List.set_cons_succ, List.getD_cons_zero, List.getD_cons_succ, c2, q2]
    · rw [if_neg q]
      have q2 : ((List.range n).all fun a => decide (o tb n x a = x) && decide (x = o tb n a x)) = false := by rw [Bool.not_eq_true] at q; exact q
      exact ⟨_, by simp only [runB_eq, x_nil, x_cons, x_set, x_own, x_par, x_ret, x_ite, x_frz, e_v, e_c, e_yes, e_tup, e_lst, e_bin, e_cmp, e_isN, e_notN, e_and, e_or, e_not, e_ite, e_ix, e_slT, e_b1, e_b2, e_call, e_nil, e_cons, lft_some, un1_some, bi2_some, tB1_some, pk_t, pk_f, anK_t, anK_f, orK_t, orK_f, notK_some, csK_some, csM_some, mk1_some, clK_some, thS_nx, thS_rt, stG_some, nxT_some, rtG_some, bG_n, bG_t, bG_l, bsG_some, bs_nil, bs_cons, pr2_some, pr1_some, enR_rt, enR_nx, rd, List.map_cons, List.map_nil, List.length_cons, List.length_nil, Nat.reduceAdd, Nat.reduceSub, List.replicate, List.cons_append, List.nil_append, List.set_cons_zero, List.set_cons_succ, List.getD_cons_zero, List.getD_cons_succ, c2, q2]; rfl, rfl⟩
  simp only [c12, ir_zero_of, runB_eq, x_nil, x_cons, x_set, x_own, x_par, x_ret, x_ite, x_frz, e_v, e_c, e_yes, e_tup, e_lst, e_bin, e_cmp, e_isN, e_notN, e_and, e_or, e_not, e_ite, e_ix, e_slT, e_b1, e_b2, e_call, e_nil, e_cons, lft_some, un1_some, bi2_some, tB1_some, pk_t, pk_f, anK_t, anK_f, orK_t, orK_f, notK_some, csK_some, csM_some, mk1_some, clK_some, thS_nx, thS_rt, stG_some, nxT_some, rtG_some, bG_n, bG_t, bG_l, bsG_some, bs_nil, bs_cons, pr2_some, pr1_some, enR_rt, enR_nx, rd, List.map_cons, List.map_nil, List.length_cons, List.length_nil, Nat.reduceAdd, Nat.reduceSub, List.replicate, List.cons_append, List.nil_append, List.set_cons_zero, List.set_cons_succ, List.getD_cons_zero, List.getD_cons_succ]
  rw [lp]
  cases (List.range n).find? (zer tb n) <;> simp only [runB_eq, x_nil, x_cons, x_set, x_own, x_par, x_ret, x_ite, x_frz, e_v, e_c, e_yes, e_tup, e_lst, e_bin, e_cmp, e_isN, e_notN, e_and, e_or, e_not, e_ite, e_ix, e_slT, e_b1, e_b2, e_call, e_nil, e_cons, lft_some, un1_some, bi2_some, tB1_some, pk_t, pk_f, anK_t, anK_f, orK_t, orK_f, notK_some, csK_some, csM_some, mk1_some, clK_some, thS_nx, thS_rt, stG_some, nxT_some, rtG_some, bG_n, bG_t, bG_l, bsG_some, bs_nil, bs_cons, pr2_some, pr1_some, enR_rt, enR_nx, rd, List.map_cons, List.map_nil, List.length_cons, List.length_nil, Nat.reduceAdd, Nat.reduceSub, List.replicate, List.cons_append, List.nil_append, List.set_cons_zero, List.set_cons_succ, List.getD_cons_zero, List.getD_cons_succ, optN]
def inv (tb : List Nat) (n e a : Nat) : Bool := (List.range n).any fun b => decide (o tb n a b = e) && decide (e = o tb n b a)
theorem wi_ok (k : Nat) (V : Val n tb) (e : Nat) (τ : Tape) : callF P (k + 2) 7 [tT tb, nI n, nI e] τ = some (optN ((List.range n).find? fun a => !inv tb n e a), τ) := by
  have lp := for_find (cf := callF P (k + 1)) (γ := [some (tT tb), some (nI n), some (nI e), none, none]) (τ := τ) (i := 3) (n := n) (a := .v 1) (b := [.ite (.not (.b1 .any (.comp [4] (.n 4) .r1 [(.v 1)] .yes (.cmp2 .eq .eq (.call 0 [(.v 0), (.v 1), (.v 3), (.v 4)]) (.v 2) (.call 0 [(.v 0), (.v 1), (.v 4), (.v 3)]))))) [.ret (.v 3)] []]) (ks := [3]) (G := [.p, .p, .p, .u, .u]) (p := fun a => !inv tb n e a) (r := nI) (nmil V) (by simp only [runB_eq, x_nil, x_cons, x_set, x_own, x_par, x_ret, x_ite, x_frz, e_v, e_c, e_yes, e_tup, e_lst, e_bin, e_cmp, e_isN, e_notN, e_and, e_or, e_not, e_ite, e_ix, e_slT, e_b1, e_b2, e_call, e_nil, e_cons, lft_some, un1_some, bi2_some, tB1_some, pk_t, pk_f, anK_t, anK_f, orK_t, orK_f, notK_some, csK_some, csM_some, mk1_some, clK_some, thS_nx, thS_rt, stG_some, nxT_some, rtG_some, bG_n, bG_t, bG_l, bsG_some, bs_nil, bs_cons, pr2_some, pr1_some, enR_rt, enR_nx, rd, List.map_cons, List.map_nil, List.length_cons, List.length_nil, Nat.reduceAdd, Nat.reduceSub, List.replicate, List.cons_append, List.nil_append, List.set_cons_zero, List.set_cons_succ, List.getD_cons_zero, List.getD_cons_succ]) fun x hx => by
    have c := any_r (cf := callF P (k + 1)) (γ := [some (tT tb), some (nI n), some (nI e), some (nI x), none]) (τ := τ) (i := 4) (n := n) (a := .v 1) (elt := .cmp2 .eq .eq (.call 0 [(.v 0), (.v 1), (.v 3), (.v 4)]) (.v 2) (.call 0 [(.v 0), (.v 1), (.v 4), (.v 3)])) (p := fun b => decide (o tb n x b = e) && decide (e = o tb n b x)) (nmil V) (by simp only [runB_eq, x_nil, x_cons, x_set, x_own, x_par, x_ret, x_ite, x_frz, e_v, e_c, e_yes, e_tup, e_lst, e_bin, e_cmp, e_isN, e_notN, e_and, e_or, e_not, e_ite, e_ix, e_slT, e_b1, e_b2, e_call, e_nil, e_cons, lft_some, un1_some, bi2_some, tB1_some, pk_t, pk_f, anK_t, anK_f, orK_t, orK_f, notK_some, csK_some, csM_some, mk1_some, clK_some, thS_nx, thS_rt, stG_some, nxT_some, rtG_some, bG_n, bG_t, bG_l, bsG_some, bs_nil, bs_cons, pr2_some, pr1_some, enR_rt, enR_nx, rd, List.map_cons, List.map_nil, List.length_cons, List.length_nil, Nat.reduceAdd, Nat.reduceSub, List.replicate, List.cons_append, List.nil_append, List.set_cons_zero, List.set_cons_succ, List.getD_cons_zero, List.getD_cons_succ])
      fun a ha => e_cmp2 (by simp only [runB_eq, x_nil, x_cons, x_set, x_own, x_par, x_ret, x_ite, x_frz, e_v, e_c, e_yes, e_tup, e_lst, e_bin, e_cmp, e_isN, e_notN, e_and, e_or, e_not, e_ite, e_ix, e_slT, e_b1, e_b2, e_call, e_nil, e_cons, lft_some, un1_some, bi2_some, tB1_some, pk_t, pk_f, anK_t, anK_f, orK_t, orK_f, notK_some, csK_some, csM_some, mk1_some, clK_some, thS_nx, thS_rt, stG_some, nxT_some, rtG_some, bG_n, bG_t, bG_l, bsG_some, bs_nil, bs_cons, pr2_some, pr1_some, enR_rt, enR_nx, rd, List.map_cons, List.map_nil, List.length_cons, List.length_nil, Nat.reduceAdd, Nat.reduceSub, List.replicate, List.cons_append, List.nil_append, List.set_cons_zero, List.set_cons_succ, List.getD_cons_zero, List.getD_cons_succ, times_ok k V, hx, ha]) (by simp only [runB_eq, x_nil, x_cons, x_set, x_own, x_par, x_ret, x_ite, x_frz, e_v, e_c, e_yes, e_tup, e_lst, e_bin, e_cmp, e_isN, e_notN, e_and, e_or, e_not, e_ite, e_ix, e_slT, e_b1, e_b2, e_call, e_nil, e_cons, lft_some, un1_some, bi2_some, tB1_some, pk_t, pk_f, anK_t, anK_f, orK_t, orK_f, notK_some, csK_some, csM_some, mk1_some, clK_some, thS_nx, thS_rt, stG_some, nxT_some, rtG_some, bG_n, bG_t, bG_l, bsG_some, bs_nil, bs_cons, pr2_some, pr1_some, enR_rt, enR_nx, rd, List.map_cons, List.map_nil, List.length_cons, List.length_nil, Nat.reduceAdd, Nat.reduceSub, List.replicate, List.cons_append, List.nil_append, List.set_cons_zero, List.set_cons_succ, List.getD_cons_zero, List.getD_cons_succ]) (by simp only [runB_eq, x_nil, x_cons, x_set, x_own, x_par, x_ret, x_ite, x_frz, e_v, e_c, e_yes, e_tup, e_lst, e_bin, e_cmp, e_isN, e_notN, e_and, e_or, e_not, e_ite, e_ix, e_slT, e_b1, e_b2, e_call, e_nil, e_cons, lft_some, un1_some, bi2_some, tB1_some, pk_t, pk_f, anK_t, anK_f, orK_t, orK_f, notK_some, csK_some, csM_some, mk1_some, clK_some, thS_nx, thS_rt, stG_some, nxT_some, rtG_some, bG_n, bG_t, bG_l, bsG_some, bs_nil, bs_cons, pr2_some, pr1_some, enR_rt, enR_nx, rd, List.map_cons, List.map_nil, List.length_cons, List.length_nil, Nat.reduceAdd, Nat.reduceSub, List.replicate, List.cons_append, List.nil_append, List.set_cons_zero, List.set_cons_succ, List.getD_cons_zero, List.getD_cons_succ, times_ok k V, hx, ha])
    have c2 := (e_b1 _ _ _ _ _).symm.trans c
    cases q : inv tb n e x with
    | true =>
      rw [if_neg (by decide)]
      have q2 : ((List.range n).any fun b => decide (o tb n x b = e) && decide (e = o tb n b x)) = true := q
      exact ⟨_, by simp only [runB_eq, x_nil, x_cons, x_set, x_own, x_par, x_ret, x_ite, x_frz, e_v, e_c, e_yes, e_tup, e_lst, e_bin, e_cmp, e_isN, e_notN, e_and, e_or, e_not, e_ite, e_ix, e_slT, e_b1, e_b2, e_call, e_nil, e_cons, lft_some, un1_some, bi2_some, tB1_some, pk_t, pk_f, anK_t, anK_f, orK_t, orK_f, notK_some, csK_some, csM_some, mk1_some, clK_some, thS_nx, thS_rt, stG_some, nxT_some, rtG_some, bG_n, bG_t, bG_l, bsG_some, bs_nil, bs_cons, pr2_some, pr1_some, enR_rt, enR_nx, rd, List.map_cons, List.map_nil, List.length_cons, List.length_nil, Nat.reduceAdd, Nat.reduceSub, List.replicate, List.cons_append, List.nil_append, List.set_cons_zero, List.set_cons_succ, List.getD_cons_zero, List.getD_cons_succ, c2, q2, Bool.not_true]; rfl, rfl⟩
    | false =>
      rw [if_pos (by decide)]
      have q2 : ((List.range n).any fun b => decide (o tb n x b = e) && decide (e = o tb n b x)) = false := q
      simp only [runB_eq, x_nil, x_cons, x_set, x_own, x_par, x_ret, x_ite, x_frz, e_v, e_c, e_yes, e_tup, e_lst, e_bin, e_cmp, e_isN, e_notN, e_and, e_or, e_not, e_ite, e_ix, e_slT, e_b1, e_b2, e_call, e_nil, e_cons, lft_some, un1_some, bi2_some, tB1_some, pk_t, pk_f, anK_t, anK_f, orK_t, orK_f, notK_some, csK_some, csM_some, mk1_some, clK_some, thS_nx, thS_rt, stG_some, nxT_some, rtG_some, bG_n, bG_t, bG_l, bsG_some, bs_nil, bs_cons, pr2_some, pr1_some, enR_rt, enR_nx, rd, List.map_cons, List.map_nil, List.length_cons, List.length_nil, Nat.reduceAdd, Nat.reduceSub, List.replicate, List.cons_append, List.nil_append, List.set_cons_zero, List.set_cons_succ, List.getD_cons_zero, List.getD_cons_succ, c2, q2, Bool.not_false]
  simp only [c7, ir_without_inverse, runB_eq, x_nil, x_cons, x_set, x_own, x_par, x_ret, x_ite, x_frz, e_v, e_c, e_yes, e_tup, e_lst, e_bin, e_cmp, e_isN, e_notN, e_and, e_or, e_not, e_ite, e_ix, e_slT, e_b1, e_b2, e_call, e_nil, e_cons, lft_some, un1_some, bi2_some, tB1_some, pk_t, pk_f, anK_t, anK_f, orK_t, orK_f, notK_some, csK_some, csM_some, mk1_some, clK_some, thS_nx, thS_rt, stG_some, nxT_some, rtG_some, bG_n, bG_t, bG_l, bsG_some, bs_nil, bs_cons, pr2_some, pr1_some, enR_rt, enR_nx, rd, List.map_cons, List.map_nil, List.length_cons, List.length_nil, Nat.reduceAdd, Nat.reduceSub, List.replicate, List.cons_append, List.nil_append, List.set_cons_zero, List.set_cons_succ, List.getD_cons_zero, List.getD_cons_succ]
  rw [lp]
  cases (List.range n).find? (fun a => !inv tb n e a) <;> simp only [runB_eq, x_nil, x_cons, x_set, x_own, x_par, x_ret, x_ite, x_frz, e_v, e_c, e_yes, e_tup, e_lst, e_bin, e_cmp, e_isN, e_notN, e_and, e_or, e_not, e_ite, e_ix, e_slT, e_b1, e_b2, e_call, e_nil, e_cons, lft_some, un1_some, bi2_some, tB1_some, pk_t, pk_f, anK_t, anK_f, orK_t, orK_f, notK_some, csK_some, csM_some, mk1_some, clK_some, thS_nx, thS_rt, stG_some, nxT_some, rtG_some, bG_n, bG_t, bG_l, bsG_some, bs_nil, bs_cons, pr2_some, pr1_some, enR_rt, enR_nx, rd, List.map_cons, List.map_nil, List.length_cons, List.length_nil, Nat.reduceAdd, Nat.reduceSub, List.replicate, List.cons_append, List.nil_append, List.set_cons_zero, List.set_cons_succ, List.getD_cons_zero, List.getD_cons_succ, optN]
theorem cB_gt_0 (a : Nat) : cB .gt (nI a) (.int 0) = some (.bool (decide (0 < a))) := by
  simp only [cB, opCmp, cInt, nI, Option.map_some]
  congr 2
  simp
theorem hd_ok (cf : CF) (γ : En) (τ : Tape) (i : Nat) (L : List Nat) (h : rd γ i = some (.list (L.map nI))) : evalE cf (.ite (.cmp .gt (.b1 .len (.v i)) (.c (.int 0))) (.ix (.v i) (.c (.int 0))) (.c .none)) γ τ = some (optN L.head?, τ) := by
  cases L with
  | nil =>
    simp only [e_ite, e_cmp, e_b1, e_v, h, lft_some, un1_some, len_l, bi2_some, e_c, cB_gt_0, List.map_nil, List.length_nil, tB1_some]
    rfl
  | cons a r =>
    simp only [e_ite, e_cmp, e_b1, e_v, h, lft_some, un1_some, len_l, bi2_some, e_c, cB_gt_0, List.map_cons, List.length_cons, tB1_some]
    rw [decide_eq_true (Nat.succ_pos _), pk_t]
    have e : opIx (.list ((a :: r).map nI)) (.int 0) = some (nI a) := L2.atI_nat (j := 0) rfl
    simp only [e_ix, e_v, h, lft_some, bi2_some, e_c, un1_some, e]
    rfl
theorem len0 {α : Type} (p : α → Bool) (l : List α) : decide ((l.filter p).length = 0) = l.all (fun x => !p x) := by
  rw [Bool.eq_iff_iff]
  simp [List.length_eq_zero_iff, List.filter_eq_nil_iff]
theorem lu_ok (k : Nat) (V : Val n tb) (τ : Tape) : callF P (k + 1) 18 [tT tb, nI n] τ = some (optN ((List.range n).find? (uni tb n)), τ) := by
  have c := fil_r (cf := callF P k) (γ := [some (tT tb), some (nI n), none, none, none]) (τ := τ) (i := 3) (n := n) (a := .v 1) (cond := .cmp .eq (.b1 .len (.comp [4] (.n 4) .r1 [(.v 1)] (.or (.cmp .ne (.ix (.v 0) (.bin .add (.bin .mul (.v 3) (.v 1)) (.v 4))) (.v 4)) (.cmp .ne (.ix (.v 0) (.bin .add (.bin .mul (.v 4) (.v 1)) (.v 3))) (.v 4))) (.v 4))) (.c (.int 0))) (p := uni tb n) (nmil V) (by simp) (by simp only [runB_eq, x_nil, x_cons, x_set, x_own, x_par, x_ret, x_ite, x_frz, e_v, e_c, e_yes, e_tup, e_lst, e_bin, e_cmp, e_isN, e_notN, e_and, e_or, e_not, e_ite, e_ix, e_slT, e_b1, e_b2, e_call, e_nil, e_cons, lft_some, un1_some, bi2_some, tB1_some, pk_t, pk_f, anK_t, anK_f, orK_t, orK_f, notK_some, csK_some, csM_some, mk1_some, clK_some, thS_nx, thS_rt, stG_some, nxT_some, rtG_some, bG_n, bG_t, bG_l, bsG_some, bs_nil, bs_cons, pr2_some, pr1_some, enR_rt, enR_nx, rd, List.map_cons, List.map_nil, List.length_cons, List.length_nil, Nat.reduceAdd, Nat.reduceSub, List.replicate, List.cons_append, List.nil_append, List.set_cons_zero, List.set_cons_succ, List.getD_cons_zero, List.getD_cons_succ]) fun x hx => by
    have f := flen_r (cf := callF P k) (γ := [some (tT tb), some (nI n), none, some (nI x), none]) (τ := τ) (i := 4) (n := n) (a := .v 1) (cond := .or (.cmp .ne (.ix (.v 0) (.bin .add (.bin .mul (.v 3) (.v 1)) (.v 4))) (.v 4)) (.cmp .ne (.ix (.v 0) (.bin .add (.bin .mul (.v 4) (.v 1)) (.v 3))) (.v 4))) (p := fun b => !decide (o tb n x b = b) || !decide (o tb n b x = b)) (nmil V) (by simp) (by simp only [runB_eq, x_nil, x_cons, x_set, x_own, x_par, x_ret, x_ite, x_frz, e_v, e_c, e_yes, e_tup, e_lst, e_bin, e_cmp, e_isN, e_notN, e_and, e_or, e_not, e_ite, e_ix, e_slT, e_b1, e_b2, e_call, e_nil, e_cons, lft_some, un1_some, bi2_some, tB1_some, pk_t, pk_f, anK_t, anK_f, orK_t, orK_f, notK_some, csK_some, csM_some, mk1_some, clK_some, thS_nx, thS_rt, stG_some, nxT_some, rtG_some, bG_n, bG_t, bG_l, bsG_some, bs_nil, bs_cons, pr2_some, pr1_some, enR_rt, enR_nx, rd, List.map_cons, List.map_nil, List.length_cons, List.length_nil, Nat.reduceAdd, Nat.reduceSub, List.replicate, List.cons_append, List.nil_append, List.set_cons_zero, List.set_cons_succ, List.getD_cons_zero, List.getD_cons_succ])
      fun b hb => by simp only [runB_eq, x_nil, x_cons, x_set, x_own, x_par, x_ret, x_ite, x_frz, e_v, e_c, e_yes, e_tup, e_lst, e_bin, e_cmp, e_isN, e_notN, e_and, e_or, e_not, e_ite, e_ix, e_slT, e_b1, e_b2, e_call, e_nil, e_cons, lft_some, un1_some, bi2_some, tB1_some, pk_t, pk_f, anK_t, anK_f, orK_t, orK_f, notK_some, csK_some, csM_some, mk1_some, clK_some, thS_nx, thS_rt, stG_some, nxT_some, rtG_some, bG_n, bG_t, bG_l, bsG_some, bs_nil, bs_cons, pr2_some, pr1_some, enR_rt, enR_nx, rd, List.map_cons, List.map_nil, List.length_cons, List.length_nil, Nat.reduceAdd, Nat.reduceSub, List.replicate, List.cons_append, List.nil_append, List.set_cons_zero, List.set_cons_succ, List.getD_cons_zero, List.getD_cons_succ, mul_n _ _ (n1000 V), add_n, at_o V, hx, hb, cB_ne_n, orK_b, orB_some]
    have f2 := (e_b1 _ _ _ _ _).symm.trans f
    simp only [runB_eq, x_nil, x_cons, x_set, x_own, x_par, x_ret, x_ite, x_frz, e_v, e_c, e_yes, e_tup, e_lst, e_bin, e_cmp, e_isN, e_notN, e_and, e_or, e_not, e_ite, e_ix, e_slT, e_b1, e_b2, e_call, e_nil, e_cons, lft_some, un1_some, bi2_some, tB1_some, pk_t, pk_f, anK_t, anK_f, orK_t, orK_f, notK_some, csK_some, csM_some, mk1_some, clK_some, thS_nx, thS_rt, stG_some, nxT_some, rtG_some, bG_n, bG_t, bG_l, bsG_some, bs_nil, bs_cons, pr2_some, pr1_some, enR_rt, enR_nx, rd, List.map_cons, List.map_nil, List.length_cons, List.length_nil, Nat.reduceAdd, Nat.reduceSub, List.replicate, List.cons_append, List.nil_append, List.set_cons_zero, List.set_cons_succ, List.getD_cons_zero, List.getD_cons_succ, f2, cB_eq_0, len0]
    congr 3
    unfold uni
    congr 1
    funext a
    rw [Bool.not_or, Bool.not_not, Bool.not_not]
    congr 1
    rw [Bool.eq_iff_iff]
    simp [eq_comm]
  simp only [c18, ir__law_unit, runB_eq, x_nil, x_cons, x_set, x_own, x_par, x_ret, x_ite, x_frz, e_v, e_c, e_yes, e_tup, e_lst, e_bin, e_cmp, e_isN, e_notN, e_and, e_or, e_not, e_ite, e_ix, e_slT, e_b1, e_b2, e_call, e_nil, e_cons, lft_some, un1_some, bi2_some, tB1_some, pk_t, pk_f, anK_t, anK_f, orK_t, orK_f, notK_some, csK_some, csM_some, mk1_some, clK_some, thS_nx, thS_rt, stG_some, nxT_some, rtG_some, bG_n, bG_t, bG_l, bsG_some, bs_nil, bs_cons, pr2_some, pr1_some, enR_rt, enR_nx, rd, List.map_cons, List.map_nil, List.length_cons, List.length_nil, Nat.reduceAdd, Nat.reduceSub, List.replicate, List.cons_append, List.nil_append, List.set_cons_zero, List.set_cons_succ, List.getD_cons_zero, List.getD_cons_succ, c]
  have d := hd_ok (callF P k) [some (tT tb), some (nI n), some (.list (((List.range n).filter (uni tb n)).map nI)), none, none] τ 2 ((List.range n).filter (uni tb n)) rfl
  rw [List.head?_filter] at d
  have d2 := (e_ite _ _ _ _ _ _).symm.trans d
  simp only [runB_eq, x_nil, x_cons, x_set, x_own, x_par, x_ret, x_ite, x_frz, e_v, e_c, e_yes, e_tup, e_lst, e_bin, e_cmp, e_isN, e_notN, e_and, e_or, e_not, e_ite, e_ix, e_slT, e_b1, e_b2, e_call, e_nil, e_cons, lft_some, un1_some, bi2_some, tB1_some, pk_t, pk_f, anK_t, anK_f, orK_t, orK_f, notK_some, csK_some, csM_some, mk1_some, clK_some, thS_nx, thS_rt, stG_some, nxT_some, rtG_some, bG_n, bG_t, bG_l, bsG_some, bs_nil, bs_cons, pr2_some, pr1_some, enR_rt, enR_nx, rd, List.map_cons, List.map_nil, List.length_cons, List.length_nil, Nat.reduceAdd, Nat.reduceSub, List.replicate, List.cons_append, List.nil_append, List.set_cons_zero, List.set_cons_succ, List.getD_cons_zero, List.getD_cons_succ] at d2
  rw [d2]
  simp only [runB_eq, x_nil, x_cons, x_set, x_own, x_par, x_ret, x_ite, x_frz, e_v, e_c, e_yes, e_tup, e_lst, e_bin, e_cmp, e_isN, e_notN, e_and, e_or, e_not, e_ite, e_ix, e_slT, e_b1, e_b2, e_call, e_nil, e_cons, lft_some, un1_some, bi2_some, tB1_some, pk_t, pk_f, anK_t, anK_f, orK_t, orK_f, notK_some, csK_some, csM_some, mk1_some, clK_some, thS_nx, thS_rt, stG_some, nxT_some, rtG_some, bG_n, bG_t, bG_l, bsG_some, bs_nil, bs_cons, pr2_some, pr1_some, enR_rt, enR_nx, rd, List.map_cons, List.map_nil, List.length_cons, List.length_nil, Nat.reduceAdd, Nat.reduceSub, List.replicate, List.cons_append, List.nil_append, List.set_cons_zero, List.set_cons_succ, List.getD_cons_zero, List.getD_cons_succ]
end
end K69
set_option Elab.async false
set_option linter.all false
set_option maxRecDepth 100000
set_option maxHeartbeats 4000000
namespace K69
open PySem Ev
theorem t_bb : (("breaks" : Str) == ("breaks" : Str)) = true := by decide +kernel
theorem t_hb : (("holds" : Str) == ("breaks" : Str)) = false := by decide +kernel
theorem t_bh : (("breaks" : Str) == ("holds" : Str)) = false := by decide +kernel
theorem t_hh : (("holds" : Str) == ("holds" : Str)) = true := by decide +kernel
theorem t0s (r : List Nat) : opIx (told (some r)) (.int 0) = some (.str "breaks") := rfl
theorem t0n : opIx (told none) (.int 0) = some (.str "holds") := rfl
theorem t1s (r : List Nat) : opIx (told (some r)) (.int 1) = some (encT r) := rfl
theorem nn (e : Nat) : isNoneD (nI e) = false := rfl
theorem n0 : isNoneD .none = true := rfl
section
variable {n : Nat} {tb : List Nat}
def lackD (tb : List Nat) (n : Nat) : D := match (List.range n).find? (uni tb n) with
  | none => .tuple [.str "unit", .none]
  | some e => .tuple [.str "inverse", optN ((List.range n).find? fun a => !inv tb n e a)]
def tailD (tb : List Nat) (n : Nat) : D := match (prods n 1).find? (B_idem tb n) with
  | none => .tuple [(match (prods n 2).find? (B_comm tb n) with | none => .str "semilattice" | some _ => .str "band"), lackD tb n]
  | some _ => .tuple [(match (List.range n).find? (uni tb n) with | some _ => .str "monoid" | none => .str "semigroup"), lackD tb n]
def groupD (tb : List Nat) (n : Nat) : D := match (prods n 2).find? (B_comm tb n) with
  | none => .tuple [.str "commuting group", .none]
  | some r => .tuple [.str "group", .tuple [.str "comm", encT r]]
def kindD (tb : List Nat) (n : Nat) : D := match (prods n 3).find? (B_assoc tb n) with
  | some r => (match (prods n 3).find? (B_cancel tb n) with
    | none => .tuple [(match (List.range n).find? (uni tb n) with | some _ => .str "loop" | none => .str "square"), .tuple [.str "assoc", encT r]]
    | some _ => .tuple [.str "table", .tuple [.str "assoc", encT r]])
  | none => (match (List.range n).find? (uni tb n) with
    | none => tailD tb n
    | some e => (match (List.range n).find? (fun a => !inv tb n e a) with
      | none => groupD tb n
      | some _ => tailD tb n))
theorem kind_ok (k : Nat) (V : Val n tb) (τ : Tape) : callF P (k + 5) 8 [tT tb, nI n] τ = some (kindD tb n, τ) := by
  have l1 := law_of_ok k V (w_assoc V) τ
  have l2 := law_of_ok k V (w_cancel V) τ
  have l3 := law_of_ok k V (w_comm V) τ
  have l4 := law_of_ok k V (w_idem V) τ
  have u := unit_ok (k + 2) V τ
  have wi := fun e => wi_ok (k + 2) V e τ
  unfold kindD
  cases hA : (prods n 3).find? (B_assoc tb n) with
  | some r =>
    rw [hA] at l1
    cases hC : (prods n 3).find? (B_cancel tb n) with
    | none =>
      rw [hC] at l2
      cases hu : (List.range n).find? (uni tb n) with
      | none =>
        rw [hu] at u
        simp only [c8, ir_kind, runB_eq, x_nil, x_cons, x_set, x_own, x_par, x_ret, x_ite, x_frz, e_v, e_c, e_yes, e_tup, e_lst, e_bin, e_cmp, e_isN, e_notN, e_and, e_or, e_not, e_ite, e_ix, e_slT, e_b1, e_b2, e_call, e_nil, e_cons, lft_some, un1_some, bi2_some, tB1_some, pk_t, pk_f, anK_t, anK_f, orK_t, orK_f, notK_some, csK_some, csM_some, mk1_some, clK_some, thS_nx, thS_rt, stG_some, nxT_some, rtG_some, bG_n, bG_t, bG_l, bsG_some, bs_nil, bs_cons, pr2_some, pr1_some, enR_rt, enR_nx, rd, List.map_cons, List.map_nil, List.length_cons, List.length_nil, Nat.reduceAdd, Nat.reduceSub, List.replicate, List.cons_append, List.nil_append, List.set_cons_zero, List.set_cons_succ, List.getD_cons_zero, List.getD_cons_succ, l1, l2, u, cB_eq_s, t0s, t0n, t1s, t_bb, t_hb, t_bh, t_hh, optN, n0, nn, Bool.not_true, Bool.not_false]
      | some e =>
        rw [hu] at u
        simp only [c8, ir_kind, runB_eq, x_nil, x_cons, x_set, x_own, x_par, x_ret, x_ite, x_frz, e_v, e_c, e_yes, e_tup, e_lst, e_bin, e_cmp, e_isN, e_notN, e_and, e_or, e_not, e_ite, e_ix, e_slT, e_b1, e_b2, e_call, e_nil, e_cons, lft_some, un1_some, bi2_some, tB1_some, pk_t, pk_f, anK_t, anK_f, orK_t, orK_f, notK_some, csK_some, csM_some, mk1_some, clK_some, thS_nx, thS_rt, stG_some, nxT_some, rtG_some, bG_n, bG_t, bG_l, bsG_some, bs_nil, bs_cons, pr2_some, pr1_some, enR_rt, enR_nx, rd, List.map_cons, List.map_nil, List.length_cons, List.length_nil, Nat.reduceAdd, Nat.reduceSub, List.replicate, List.cons_append, List.nil_append, List.set_cons_zero, List.set_cons_succ, List.getD_cons_zero, List.getD_cons_succ, l1, l2, u, cB_eq_s, t0s, t0n, t1s, t_bb, t_hb, t_bh, t_hh, optN, n0, nn, Bool.not_true, Bool.not_false]
    | some q =>
      rw [hC] at l2
      simp only [c8, ir_kind, runB_eq, x_nil, x_cons, x_set, x_own, x_par, x_ret, x_ite, x_frz, e_v, e_c, e_yes, e_tup, e_lst, e_bin, e_cmp, e_isN, e_notN, e_and, e_or, e_not, e_ite, e_ix, e_slT, e_b1, e_b2, e_call, e_nil, e_cons, lft_some, un1_some, bi2_some, tB1_some, pk_t, pk_f, anK_t, anK_f, orK_t, orK_f, notK_some, csK_some, csM_some, mk1_some, clK_some, thS_nx, thS_rt, stG_some, nxT_some, rtG_some, bG_n, bG_t, bG_l, bsG_some, bs_nil, bs_cons, pr2_some, pr1_some, enR_rt, enR_nx, rd, List.map_cons, List.map_nil, List.length_cons, List.length_nil, Nat.reduceAdd, Nat.reduceSub, List.replicate, List.cons_append, List.nil_append, List.set_cons_zero, List.set_cons_succ, List.getD_cons_zero, List.getD_cons_succ, l1, l2, cB_eq_s, t0s, t0n, t1s, t_bb, t_hb, t_bh, t_hh]
  | none =>
    rw [hA] at l1
    cases hu : (List.range n).find? (uni tb n) with
    | none =>
      rw [hu] at u
      unfold tailD lackD
      rw [hu]
      cases hI : (prods n 1).find? (B_idem tb n) with
      | none =>
        rw [hI] at l4
        cases hM : (prods n 2).find? (B_comm tb n) with
        | none =>
          rw [hM] at l3
          simp only [c8, ir_kind, runB_eq, x_nil, x_cons, x_set, x_own, x_par, x_ret, x_ite, x_frz, e_v, e_c, e_yes, e_tup, e_lst, e_bin, e_cmp, e_isN, e_notN, e_and, e_or, e_not, e_ite, e_ix, e_slT, e_b1, e_b2, e_call, e_nil, e_cons, lft_some, un1_some, bi2_some, tB1_some, pk_t, pk_f, anK_t, anK_f, orK_t, orK_f, notK_some, csK_some, csM_some, mk1_some, clK_some, thS_nx, thS_rt, stG_some, nxT_some, rtG_some, bG_n, bG_t, bG_l, bsG_some, bs_nil, bs_cons, pr2_some, pr1_some, enR_rt, enR_nx, rd, List.map_cons, List.map_nil, List.length_cons, List.length_nil, Nat.reduceAdd, Nat.reduceSub, List.replicate, List.cons_append, List.nil_append, List.set_cons_zero, List.set_cons_succ, List.getD_cons_zero, List.getD_cons_succ, l1, l3, l4, u, cB_eq_s, t0s, t0n, t1s, t_bb, t_hb, t_bh, t_hh, optN, n0, nn, Bool.not_true, Bool.not_false]
        | some q =>
          rw [hM] at l3
          simp only [c8, ir_kind, runB_eq, x_nil, x_cons, x_set, x_own, x_par, x_ret, x_ite, x_frz, e_v, e_c, e_yes, e_tup, e_lst, e_bin, e_cmp, e_isN, e_notN, e_and, e_or, e_not, e_ite, e_ix, e_slT, e_b1, e_b2, e_call, e_nil, e_cons, lft_some, un1_some, bi2_some, tB1_some, pk_t, pk_f, anK_t, anK_f, orK_t, orK_f, notK_some, csK_some, csM_some, mk1_some, clK_some, thS_nx, thS_rt, stG_some, nxT_some, rtG_some, bG_n, bG_t, bG_l, bsG_some, bs_nil, bs_cons, pr2_some, pr1_some, enR_rt, enR_nx, rd, List.map_cons, List.map_nil, List.length_cons, List.length_nil, Nat.reduceAdd, Nat.reduceSub, List.replicate, List.cons_append, List.nil_append, List.set_cons_zero, List.set_cons_succ, List.getD_cons_zero, List.getD_cons_succ, l1, l3, l4, u, cB_eq_s, t0s, t0n, t1s, t_bb, t_hb, t_bh, t_hh, optN, n0, nn, Bool.not_true, Bool.not_false]
      | some q =>
        rw [hI] at l4
        simp only [c8, ir_kind, runB_eq, x_nil, x_cons, x_set, x_own, x_par, x_ret, x_ite, x_frz, e_v, e_c, e_yes, e_tup, e_lst, e_bin, e_cmp, e_isN, e_notN, e_and, e_or, e_not, e_ite, e_ix, e_slT, e_b1, e_b2, e_call, e_nil, e_cons, lft_some, un1_some, bi2_some, tB1_some, pk_t, pk_f, anK_t, anK_f, orK_t, orK_f, notK_some, csK_some, csM_some, mk1_some, clK_some, thS_nx, thS_rt, stG_some, nxT_some, rtG_some, bG_n, bG_t, bG_l, bsG_some, bs_nil, bs_cons, pr2_some, pr1_some, enR_rt, enR_nx, rd, List.map_cons, List.map_nil, List.length_cons, List.length_nil, Nat.reduceAdd, Nat.reduceSub, List.replicate, List.cons_append, List.nil_append, List.set_cons_zero, List.set_cons_succ, List.getD_cons_zero, List.getD_cons_succ, l1, l4, u, cB_eq_s, t0s, t0n, t1s, t_bb, t_hb, t_bh, t_hh, optN, n0, nn, Bool.not_true, Bool.not_false]
    | some e =>
      rw [hu] at u
      have w1 := wi e
      have u2 : callF P (k + 4) 6 [tT tb, nI n] τ = some (nI e, τ) := u
      cases hw : (List.range n).find? (fun a => !inv tb n e a) with
      | none =>
        rw [hw] at w1
        have w2 : callF P (k + 4) 7 [tT tb, nI n, nI e] τ = some (.none, τ) := w1
        simp only [hw]
        unfold groupD
        cases hM : (prods n 2).find? (B_comm tb n) with
        | none =>
          rw [hM] at l3
          simp only [c8, ir_kind, runB_eq, x_nil, x_cons, x_set, x_own, x_par, x_ret, x_ite, x_frz, e_v, e_c, e_yes, e_tup, e_lst, e_bin, e_cmp, e_isN, e_notN, e_and, e_or, e_not, e_ite, e_ix, e_slT, e_b1, e_b2, e_call, e_nil, e_cons, lft_some, un1_some, bi2_some, tB1_some, pk_t, pk_f, anK_t, anK_f, orK_t, orK_f, notK_some, csK_some, csM_some, mk1_some, clK_some, thS_nx, thS_rt, stG_some, nxT_some, rtG_some, bG_n, bG_t, bG_l, bsG_some, bs_nil, bs_cons, pr2_some, pr1_some, enR_rt, enR_nx, rd, List.map_cons, List.map_nil, List.length_cons, List.length_nil, Nat.reduceAdd, Nat.reduceSub, List.replicate, List.cons_append, List.nil_append, List.set_cons_zero, List.set_cons_succ, List.getD_cons_zero, List.getD_cons_succ, l1, l3, u2, w2, cB_eq_s, t0s, t0n, t1s, t_bb, t_hb, t_bh, t_hh, n0, nn, Bool.not_true, Bool.not_false]
        | some q =>
          rw [hM] at l3
          simp only [c8, ir_kind, runB_eq, x_nil, x_cons, x_set, x_own, x_par, x_ret, x_ite, x_frz, e_v, e_c, e_yes, e_tup, e_lst, e_bin, e_cmp, e_isN, e_notN, e_and, e_or, e_not, e_ite, e_ix, e_slT, e_b1, e_b2, e_call, e_nil, e_cons, lft_some, un1_some, bi2_some, tB1_some, pk_t, pk_f, anK_t, anK_f, orK_t, orK_f, notK_some, csK_some, csM_some, mk1_some, clK_some, thS_nx, thS_rt, stG_some, nxT_some, rtG_some, bG_n, bG_t, bG_l, bsG_some, bs_nil, bs_cons, pr2_some, pr1_some, enR_rt, enR_nx, rd, List.map_cons, List.map_nil, List.length_cons, List.length_nil, Nat.reduceAdd, Nat.reduceSub, List.replicate, List.cons_append, List.nil_append, List.set_cons_zero, List.set_cons_succ, List.getD_cons_zero, List.getD_cons_succ, l1, l3, u2, w2, cB_eq_s, t0s, t0n, t1s, t_bb, t_hb, t_bh, t_hh, n0, nn, Bool.not_true, Bool.not_false]
      | some z =>
        rw [hw] at w1
        have w2 : callF P (k + 4) 7 [tT tb, nI n, nI e] τ = some (nI z, τ) := w1
        simp only [hw]
        unfold tailD lackD
        rw [hu]
        simp only [hw]
        cases hI : (prods n 1).find? (B_idem tb n) with
        | none =>
          rw [hI] at l4
          cases hM : (prods n 2).find? (B_comm tb n) with
          | none =>
            rw [hM] at l3
            simp only [c8, ir_kind, runB_eq, x_nil, x_cons, x_set, x_own, x_par, x_ret, x_ite, x_frz, e_v, e_c, e_yes, e_tup, e_lst, e_bin, e_cmp, e_isN, e_notN, e_and, e_or, e_not, e_ite, e_ix, e_slT, e_b1, e_b2, e_call, e_nil, e_cons, lft_some, un1_some, bi2_some, tB1_some, pk_t, pk_f, anK_t, anK_f, orK_t, orK_f, notK_some, csK_some, csM_some, mk1_some, clK_some, thS_nx, thS_rt, stG_some, nxT_some, rtG_some, bG_n, bG_t, bG_l, bsG_some, bs_nil, bs_cons, pr2_some, pr1_some, enR_rt, enR_nx, rd, List.map_cons, List.map_nil, List.length_cons, List.length_nil, Nat.reduceAdd, Nat.reduceSub, List.replicate, List.cons_append, List.nil_append, List.set_cons_zero, List.set_cons_succ, List.getD_cons_zero, List.getD_cons_succ, l1, l3, l4, u2, w2, cB_eq_s, t0s, t0n, t1s, t_bb, t_hb, t_bh, t_hh, optN, n0, nn, Bool.not_true, Bool.not_false]
          | some q =>
            rw [hM] at l3
            simp only [c8, ir_kind, runB_eq, x_nil, x_cons, x_set, x_own, x_par, x_ret, x_ite, x_frz, e_v, e_c, e_yes, e_tup, e_lst, e_bin, e_cmp, e_isN, e_notN, e_and, e_or, e_not, e_ite, e_ix, e_slT, e_b1, e_b2, e_call, e_nil, e_cons, lft_some, un1_some, bi2_some, tB1_some, pk_t, pk_f, anK_t, anK_f, orK_t, orK_f, notK_some, csK_some, csM_some, mk1_some, clK_some, thS_nx, thS_rt, stG_some, nxT_some, rtG_some, bG_n, bG_t, bG_l, bsG_some, bs_nil, bs_cons, pr2_some, pr1_some, enR_rt, enR_nx, rd, List.map_cons, List.map_nil, List.length_cons, List.length_nil, Nat.reduceAdd, Nat.reduceSub, List.replicate, List.cons_append, List.nil_append, List.set_cons_zero, List.set_cons_succ, List.getD_cons_zero, List.getD_cons_succ, l1, l3, l4, u2, w2, cB_eq_s, t0s, t0n, t1s, t_bb, t_hb, t_bh, t_hh, optN, n0, nn, Bool.not_true, Bool.not_false]
        | some q =>
          rw [hI] at l4
          simp only [c8, ir_kind, runB_eq, x_nil, x_cons, x_set, x_own, x_par, x_ret, x_ite, x_frz, e_v, e_c, e_yes, e_tup, e_lst, e_bin, e_cmp, e_isN, e_notN, e_and, e_or, e_not, e_ite, e_ix, e_slT, e_b1, e_b2, e_call, e_nil, e_cons, lft_some, un1_some, bi2_some, tB1_some, pk_t, pk_f, anK_t, anK_f, orK_t, orK_f, notK_some, csK_some, csM_some, mk1_some, clK_some, thS_nx, thS_rt, stG_some, nxT_some, rtG_some, bG_n, bG_t, bG_l, bsG_some, bs_nil, bs_cons, pr2_some, pr1_some, enR_rt, enR_nx, rd, List.map_cons, List.map_nil, List.length_cons, List.length_nil, Nat.reduceAdd, Nat.reduceSub, List.replicate, List.cons_append, List.nil_append, List.set_cons_zero, List.set_cons_succ, List.getD_cons_zero, List.getD_cons_succ, l1, l4, u2, w2, cB_eq_s, t0s, t0n, t1s, t_bb, t_hb, t_bh, t_hh, optN, n0, nn, Bool.not_true, Bool.not_false]
end
end K69
set_option Elab.async false
set_option linter.all false
set_option maxRecDepth 100000
set_option maxHeartbeats 4000000
namespace K69
open PySem Ev
section
variable {n : Nat} {tb : List Nat}
theorem alone_ok (k : Nat) (V : Val n tb) (e : Nat) (x2 x4 x5 x6 x7 : Option D) (τ : Tape) :
    evalE (callF P k) (.comp [8] (.n 8) .r1 [(.v 1)] (.cmp .eq (.b1 .len (.comp [9] (.n 9) .r1 [(.v 1)] (.and (.cmp .eq (.ix (.v 0) (.bin .add (.bin .mul (.v 8) (.v 1)) (.v 9))) (.v 3)) (.cmp .eq (.ix (.v 0) (.bin .add (.bin .mul (.v 9) (.v 1)) (.v 8))) (.v 3))) (.v 9))) (.c (.int 0))) (.v 8)) [some (tT tb), some (nI n), x2, some (nI e), x4, x5, x6, x7, none, none] τ
      = some (.list (((List.range n).filter fun a => !inv tb n e a).map nI), τ) :=
  fil_r (nmil V) (by simp) (by simp only [runB_eq, x_nil, x_cons, x_set, x_own, x_par, x_ret, x_ite, x_frz, e_v, e_c, e_yes, e_tup, e_lst, e_bin, e_cmp, e_isN, e_notN, e_and, e_or, e_not, e_ite, e_ix, e_slT, e_b1, e_b2, e_call, e_nil, e_cons, lft_some, un1_some, bi2_some, tB1_some, pk_t, pk_f, anK_t, anK_f, orK_t, orK_f, notK_some, csK_some, csM_some, mk1_some, clK_some, thS_nx, thS_rt, stG_some, nxT_some, rtG_some, bG_n, bG_t, bG_l, bsG_some, bs_nil, bs_cons, pr2_some, pr1_some, enR_rt, enR_nx, rd, List.map_cons, List.map_nil, List.length_cons, List.length_nil, Nat.reduceAdd, Nat.reduceSub, List.replicate, List.cons_append, List.nil_append, List.set_cons_zero, List.set_cons_succ, List.getD_cons_zero, List.getD_cons_succ]) fun x hx => by
    have f := flen_r (cf := callF P k) (γ := [some (tT tb), some (nI n), x2, some (nI e), x4, x5, x6, x7, some (nI x), none]) (τ := τ) (i := 9) (n := n) (a := .v 1) (cond := .and (.cmp .eq (.ix (.v 0) (.bin .add (.bin .mul (.v 8) (.v 1)) (.v 9))) (.v 3)) (.cmp .eq (.ix (.v 0) (.bin .add (.bin .mul (.v 9) (.v 1)) (.v 8))) (.v 3))) (p := fun b => decide (o tb n x b = e) && decide (o tb n b x = e)) (nmil V) (by simp) (by simp only [runB_eq, x_nil, x_cons, x_set, x_own, x_par, x_ret, x_ite, x_frz, e_v, e_c, e_yes, e_tup, e_lst, e_bin, e_cmp, e_isN, e_notN, e_and, e_or, e_not, e_ite, e_ix, e_slT, e_b1, e_b2, e_call, e_nil, e_cons, lft_some, un1_some, bi2_some, tB1_some, pk_t, pk_f, anK_t, anK_f, orK_t, orK_f, notK_some, csK_some, csM_some, mk1_some, clK_some, thS_nx, thS_rt, stG_some, nxT_some, rtG_some, bG_n, bG_t, bG_l, bsG_some, bs_nil, bs_cons, pr2_some, pr1_some, enR_rt, enR_nx, rd, List.map_cons, List.map_nil, List.length_cons, List.length_nil, Nat.reduceAdd, Nat.reduceSub, List.replicate, List.cons_append, List.nil_append, List.set_cons_zero, List.set_cons_succ, List.getD_cons_zero, List.getD_cons_succ])
      fun b hb => by simp only [runB_eq, x_nil, x_cons, x_set, x_own, x_par, x_ret, x_ite, x_frz, e_v, e_c, e_yes, e_tup, e_lst, e_bin, e_cmp, e_isN, e_notN, e_and, e_or, e_not, e_ite, e_ix, e_slT, e_b1, e_b2, e_call, e_nil, e_cons, lft_some, un1_some, bi2_some, tB1_some, pk_t, pk_f, anK_t, anK_f, orK_t, orK_f, notK_some, csK_some, csM_some, mk1_some, clK_some, thS_nx, thS_rt, stG_some, nxT_some, rtG_some, bG_n, bG_t, bG_l, bsG_some, bs_nil, bs_cons, pr2_some, pr1_some, enR_rt, enR_nx, rd, List.map_cons, List.map_nil, List.length_cons, List.length_nil, Nat.reduceAdd, Nat.reduceSub, List.replicate, List.cons_append, List.nil_append, List.set_cons_zero, List.set_cons_succ, List.getD_cons_zero, List.getD_cons_succ, mul_n _ _ (n1000 V), add_n, at_o V, hx, hb, cB_eq_n, anK_b, anB_some]
    have f2 := (e_b1 _ _ _ _ _).symm.trans f
    simp only [runB_eq, x_nil, x_cons, x_set, x_own, x_par, x_ret, x_ite, x_frz, e_v, e_c, e_yes, e_tup, e_lst, e_bin, e_cmp, e_isN, e_notN, e_and, e_or, e_not, e_ite, e_ix, e_slT, e_b1, e_b2, e_call, e_nil, e_cons, lft_some, un1_some, bi2_some, tB1_some, pk_t, pk_f, anK_t, anK_f, orK_t, orK_f, notK_some, csK_some, csM_some, mk1_some, clK_some, thS_nx, thS_rt, stG_some, nxT_some, rtG_some, bG_n, bG_t, bG_l, bsG_some, bs_nil, bs_cons, pr2_some, pr1_some, enR_rt, enR_nx, rd, List.map_cons, List.map_nil, List.length_cons, List.length_nil, Nat.reduceAdd, Nat.reduceSub, List.replicate, List.cons_append, List.nil_append, List.set_cons_zero, List.set_cons_succ, List.getD_cons_zero, List.getD_cons_succ, f2, cB_eq_0, len0]
    congr 3
    unfold inv
    rw [List.not_any_eq_all_not]
    congr 1
    funext b
    congr 2
    rw [Bool.eq_iff_iff]
    simp [eq_comm]
theorem hx_ok (L : List Nat) (a : Nat) (h : L.head? = some a) : opIx (.list (L.map nI)) (.int 0) = some (nI a) := by
  cases L with
  | nil => cases h
  | cons b r =>
    cases h
    exact L2.atI_nat (j := 0) rfl
theorem lkind_ok (k : Nat) (V : Val n tb) (τ : Tape) : callF P (k + 3) 19 [tT tb, nI n] τ = some (kindD tb n, τ) := by
  have l1 := lawof_ok k V (w_assoc V) τ
  have l2 := lawof_ok k V (w_cancel V) τ
  have l3 := lawof_ok k V (w_comm V) τ
  have l4 := lawof_ok k V (w_idem V) τ
  have u := lu_ok (k + 1) V τ
  unfold kindD
  cases hA : (prods n 3).find? (B_assoc tb n) with
  | some r =>
    rw [hA] at l1
    cases hC : (prods n 3).find? (B_cancel tb n) with
    | none =>
      rw [hC] at l2
      cases hu : (List.range n).find? (uni tb n) with
      | none =>
        rw [hu] at u
        simp only [c19, ir__law_kind, runB_eq, x_nil, x_cons, x_set, x_own, x_par, x_ret, x_ite, x_frz, e_v, e_c, e_yes, e_tup, e_lst, e_bin, e_cmp, e_isN, e_notN, e_and, e_or, e_not, e_ite, e_ix, e_slT, e_b1, e_b2, e_call, e_nil, e_cons, lft_some, un1_some, bi2_some, tB1_some, pk_t, pk_f, anK_t, anK_f, orK_t, orK_f, notK_some, csK_some, csM_some, mk1_some, clK_some, thS_nx, thS_rt, stG_some, nxT_some, rtG_some, bG_n, bG_t, bG_l, bsG_some, bs_nil, bs_cons, pr2_some, pr1_some, enR_rt, enR_nx, rd, List.map_cons, List.map_nil, List.length_cons, List.length_nil, Nat.reduceAdd, Nat.reduceSub, List.replicate, List.cons_append, List.nil_append, List.set_cons_zero, List.set_cons_succ, List.getD_cons_zero, List.getD_cons_succ, l1, l2, u, cB_eq_s, t0s, t0n, t1s, t_bb, t_hb, t_bh, t_hh, optN, n0, nn, Bool.not_true, Bool.not_false]
      | some e =>
        rw [hu] at u
        simp only [c19, ir__law_kind, runB_eq, x_nil, x_cons, x_set, x_own, x_par, x_ret, x_ite, x_frz, e_v, e_c, e_yes, e_tup, e_lst, e_bin, e_cmp, e_isN, e_notN, e_and, e_or, e_not, e_ite, e_ix, e_slT, e_b1, e_b2, e_call, e_nil, e_cons, lft_some, un1_some, bi2_some, tB1_some, pk_t, pk_f, anK_t, anK_f, orK_t, orK_f, notK_some, csK_some, csM_some, mk1_some, clK_some, thS_nx, thS_rt, stG_some, nxT_some, rtG_some, bG_n, bG_t, bG_l, bsG_some, bs_nil, bs_cons, pr2_some, pr1_some, enR_rt, enR_nx, rd, List.map_cons, List.map_nil, List.length_cons, List.length_nil, Nat.reduceAdd, Nat.reduceSub, List.replicate, List.cons_append, List.nil_append, List.set_cons_zero, List.set_cons_succ, List.getD_cons_zero, List.getD_cons_succ, l1, l2, u, cB_eq_s, t0s, t0n, t1s, t_bb, t_hb, t_bh, t_hh, optN, n0, nn, Bool.not_true, Bool.not_false]
    | some q =>
      rw [hC] at l2
      simp only [c19, ir__law_kind, runB_eq, x_nil, x_cons, x_set, x_own, x_par, x_ret, x_ite, x_frz, e_v, e_c, e_yes, e_tup, e_lst, e_bin, e_cmp, e_isN, e_notN, e_and, e_or, e_not, e_ite, e_ix, e_slT, e_b1, e_b2, e_call, e_nil, e_cons, lft_some, un1_some, bi2_some, tB1_some, pk_t, pk_f, anK_t, anK_f, orK_t, orK_f, notK_some, csK_some, csM_some, mk1_some, clK_some, thS_nx, thS_rt, stG_some, nxT_some, rtG_some, bG_n, bG_t, bG_l, bsG_some, bs_nil, bs_cons, pr2_some, pr1_some, enR_rt, enR_nx, rd, List.map_cons, List.map_nil, List.length_cons, List.length_nil, Nat.reduceAdd, Nat.reduceSub, List.replicate, List.cons_append, List.nil_append, List.set_cons_zero, List.set_cons_succ, List.getD_cons_zero, List.getD_cons_succ, l1, l2, u, cB_eq_s, t0s, t0n, t1s, t_bb, t_hb, t_bh, t_hh, optN, n0, nn, Bool.not_true, Bool.not_false]
  | none =>
    rw [hA] at l1
    cases hu : (List.range n).find? (uni tb n) with
    | none =>
      rw [hu] at u
      unfold tailD lackD
      rw [hu]
      cases hI : (prods n 1).find? (B_idem tb n) with
      | none =>
        rw [hI] at l4
        cases hM : (prods n 2).find? (B_comm tb n) with
        | none =>
          rw [hM] at l3
          simp only [c19, ir__law_kind, runB_eq, x_nil, x_cons, x_set, x_own, x_par, x_ret, x_ite, x_frz, e_v, e_c, e_yes, e_tup, e_lst, e_bin, e_cmp, e_isN, e_notN, e_and, e_or, e_not, e_ite, e_ix, e_slT, e_b1, e_b2, e_call, e_nil, e_cons, lft_some, un1_some, bi2_some, tB1_some, pk_t, pk_f, anK_t, anK_f, orK_t, orK_f, notK_some, csK_some, csM_some, mk1_some, clK_some, thS_nx, thS_rt, stG_some, nxT_some, rtG_some, bG_n, bG_t, bG_l, bsG_some, bs_nil, bs_cons, pr2_some, pr1_some, enR_rt, enR_nx, rd, List.map_cons, List.map_nil, List.length_cons, List.length_nil, Nat.reduceAdd, Nat.reduceSub, List.replicate, List.cons_append, List.nil_append, List.set_cons_zero, List.set_cons_succ, List.getD_cons_zero, List.getD_cons_succ, l1, l3, l4, u, cB_eq_s, t0s, t0n, t1s, t_bb, t_hb, t_bh, t_hh, optN, n0, nn, Bool.not_true, Bool.not_false]
        | some q =>
          rw [hM] at l3
          simp only [c19, ir__law_kind, runB_eq, x_nil, x_cons, x_set, x_own, x_par, x_ret, x_ite, x_frz, e_v, e_c, e_yes, e_tup, e_lst, e_bin, e_cmp, e_isN, e_notN, e_and, e_or, e_not, e_ite, e_ix, e_slT, e_b1, e_b2, e_call, e_nil, e_cons, lft_some, un1_some, bi2_some, tB1_some, pk_t, pk_f, anK_t, anK_f, orK_t, orK_f, notK_some, csK_some, csM_some, mk1_some, clK_some, thS_nx, thS_rt, stG_some, nxT_some, rtG_some, bG_n, bG_t, bG_l, bsG_some, bs_nil, bs_cons, pr2_some, pr1_some, enR_rt, enR_nx, rd, List.map_cons, List.map_nil, List.length_cons, List.length_nil, Nat.reduceAdd, Nat.reduceSub, List.replicate, List.cons_append, List.nil_append, List.set_cons_zero, List.set_cons_succ, List.getD_cons_zero, List.getD_cons_succ, l1, l3, l4, u, cB_eq_s, t0s, t0n, t1s, t_bb, t_hb, t_bh, t_hh, optN, n0, nn, Bool.not_true, Bool.not_false]
      | some q =>
        rw [hI] at l4
        simp only [c19, ir__law_kind, runB_eq, x_nil, x_cons, x_set, x_own, x_par, x_ret, x_ite, x_frz, e_v, e_c, e_yes, e_tup, e_lst, e_bin, e_cmp, e_isN, e_notN, e_and, e_or, e_not, e_ite, e_ix, e_slT, e_b1, e_b2, e_call, e_nil, e_cons, lft_some, un1_some, bi2_some, tB1_some, pk_t, pk_f, anK_t, anK_f, orK_t, orK_f, notK_some, csK_some, csM_some, mk1_some, clK_some, thS_nx, thS_rt, stG_some, nxT_some, rtG_some, bG_n, bG_t, bG_l, bsG_some, bs_nil, bs_cons, pr2_some, pr1_some, enR_rt, enR_nx, rd, List.map_cons, List.map_nil, List.length_cons, List.length_nil, Nat.reduceAdd, Nat.reduceSub, List.replicate, List.cons_append, List.nil_append, List.set_cons_zero, List.set_cons_succ, List.getD_cons_zero, List.getD_cons_succ, l1, l3, l4, u, cB_eq_s, t0s, t0n, t1s, t_bb, t_hb, t_bh, t_hh, optN, n0, nn, Bool.not_true, Bool.not_false]
    | some e =>
      rw [hu] at u
      have u2 : callF P (k + 2) 18 [tT tb, nI n] τ = some (nI e, τ) := u
      have al := fun x2 x4 x5 x6 x7 => alone_ok (k + 2) V e x2 x4 x5 x6 x7 τ
      cases hw : (List.range n).find? (fun a => !inv tb n e a) with
      | none =>
        have hL : (List.range n).filter (fun a => !inv tb n e a) = [] := by
          have := List.head?_filter (p := fun a => !inv tb n e a) (l := List.range n)
          rw [hw] at this
          exact List.head?_eq_none_iff.mp this
        rw [hL] at al
        simp only [hw]
        unfold groupD
        cases hM : (prods n 2).find? (B_comm tb n) with
        | none =>
          rw [hM] at l3
          simp only [c19, ir__law_kind, runB_eq, x_nil, x_cons, x_set, x_own, x_par, x_ret, x_ite, x_frz, e_v, e_c, e_yes, e_tup, e_lst, e_bin, e_cmp, e_isN, e_notN, e_and, e_or, e_not, e_ite, e_ix, e_slT, e_b1, e_b2, e_call, e_nil, e_cons, lft_some, un1_some, bi2_some, tB1_some, pk_t, pk_f, anK_t, anK_f, orK_t, orK_f, notK_some, csK_some, csM_some, mk1_some, clK_some, thS_nx, thS_rt, stG_some, nxT_some, rtG_some, bG_n, bG_t, bG_l, bsG_some, bs_nil, bs_cons, pr2_some, pr1_some, enR_rt, enR_nx, rd, List.map_cons, List.map_nil, List.length_cons, List.length_nil, Nat.reduceAdd, Nat.reduceSub, List.replicate, List.cons_append, List.nil_append, List.set_cons_zero, List.set_cons_succ, List.getD_cons_zero, List.getD_cons_succ, l1, l3, u2, al, len_l, cB_eq_0, decide_true, cB_eq_s, t0s, t0n, t1s, t_bb, t_hb, t_bh, t_hh, optN, n0, nn, Bool.not_true, Bool.not_false]
        | some q =>
          rw [hM] at l3
          simp only [c19, ir__law_kind, runB_eq, x_nil, x_cons, x_set, x_own, x_par, x_ret, x_ite, x_frz, e_v, e_c, e_yes, e_tup, e_lst, e_bin, e_cmp, e_isN, e_notN, e_and, e_or, e_not, e_ite, e_ix, e_slT, e_b1, e_b2, e_call, e_nil, e_cons, lft_some, un1_some, bi2_some, tB1_some, pk_t, pk_f, anK_t, anK_f, orK_t, orK_f, notK_some, csK_some, csM_some, mk1_some, clK_some, thS_nx, thS_rt, stG_some, nxT_some, rtG_some, bG_n, bG_t, bG_l, bsG_some, bs_nil, bs_cons, pr2_some, pr1_some, enR_rt, enR_nx, rd, List.map_cons, List.map_nil, List.length_cons, List.length_nil, Nat.reduceAdd, Nat.reduceSub, List.replicate, List.cons_append, List.nil_append, List.set_cons_zero, List.set_cons_succ, List.getD_cons_zero, List.getD_cons_succ, l1, l3, u2, al, len_l, cB_eq_0, decide_true, cB_eq_s, t0s, t0n, t1s, t_bb, t_hb, t_bh, t_hh, optN, n0, nn, Bool.not_true, Bool.not_false]
      | some z =>
        have hH : ((List.range n).filter (fun a => !inv tb n e a)).head? = some z := by rw [List.head?_filter, hw]
        have hx := hx_ok _ z hH
        have hne : decide (((List.range n).filter (fun a => !inv tb n e a)).length = 0) = false := by
          cases hq : (List.range n).filter (fun a => !inv tb n e a) with
          | nil => rw [hq] at hH; cases hH
          | cons a r => rfl
        simp only [hw]
        unfold tailD lackD
        rw [hu]
        simp only [hw]
        cases hI : (prods n 1).find? (B_idem tb n) with
        | none =>
          rw [hI] at l4
          cases hM : (prods n 2).find? (B_comm tb n) with
          | none =>
            rw [hM] at l3
            simp only [c19, ir__law_kind, runB_eq, x_nil, x_cons, x_set, x_own, x_par, x_ret, x_ite, x_frz, e_v, e_c, e_yes, e_tup, e_lst, e_bin, e_cmp, e_isN, e_notN, e_and, e_or, e_not, e_ite, e_ix, e_slT, e_b1, e_b2, e_call, e_nil, e_cons, lft_some, un1_some, bi2_some, tB1_some, pk_t, pk_f, anK_t, anK_f, orK_t, orK_f, notK_some, csK_some, csM_some, mk1_some, clK_some, thS_nx, thS_rt, stG_some, nxT_some, rtG_some, bG_n, bG_t, bG_l, bsG_some, bs_nil, bs_cons, pr2_some, pr1_some, enR_rt, enR_nx, rd, List.map_cons, List.map_nil, List.length_cons, List.length_nil, Nat.reduceAdd, Nat.reduceSub, List.replicate, List.cons_append, List.nil_append, List.set_cons_zero, List.set_cons_succ, List.getD_cons_zero, List.getD_cons_succ, l1, l3, l4, u2, al, len_l, List.length_map, cB_eq_0, hne, hx, cB_eq_s, t0s, t0n, t1s, t_bb, t_hb, t_bh, t_hh, optN, n0, nn, Bool.not_true, Bool.not_false]
          | some q =>
            rw [hM] at l3
            simp only [c19, ir__law_kind, runB_eq, x_nil, x_cons, x_set, x_own, x_par, x_ret, x_ite, x_frz, e_v, e_c, e_yes, e_tup, e_lst, e_bin, e_cmp, e_isN, e_notN, e_and, e_or, e_not, e_ite, e_ix, e_slT, e_b1, e_b2, e_call, e_nil, e_cons, lft_some, un1_some, bi2_some, tB1_some, pk_t, pk_f, anK_t, anK_f, orK_t, orK_f, notK_some, csK_some, csM_some, mk1_some, clK_some, thS_nx, thS_rt, stG_some, nxT_some, rtG_some, bG_n, bG_t, bG_l, bsG_some, bs_nil, bs_cons, pr2_some, pr1_some, enR_rt, enR_nx, rd, List.map_cons, List.map_nil, List.length_cons, List.length_nil, Nat.reduceAdd, Nat.reduceSub, List.replicate, List.cons_append, List.nil_append, List.set_cons_zero, List.set_cons_succ, List.getD_cons_zero, List.getD_cons_succ, l1, l3, l4, u2, al, len_l, List.length_map, cB_eq_0, hne, hx, cB_eq_s, t0s, t0n, t1s, t_bb, t_hb, t_bh, t_hh, optN, n0, nn, Bool.not_true, Bool.not_false]
        | some q =>
          rw [hI] at l4
          simp only [c19, ir__law_kind, runB_eq, x_nil, x_cons, x_set, x_own, x_par, x_ret, x_ite, x_frz, e_v, e_c, e_yes, e_tup, e_lst, e_bin, e_cmp, e_isN, e_notN, e_and, e_or, e_not, e_ite, e_ix, e_slT, e_b1, e_b2, e_call, e_nil, e_cons, lft_some, un1_some, bi2_some, tB1_some, pk_t, pk_f, anK_t, anK_f, orK_t, orK_f, notK_some, csK_some, csM_some, mk1_some, clK_some, thS_nx, thS_rt, stG_some, nxT_some, rtG_some, bG_n, bG_t, bG_l, bsG_some, bs_nil, bs_cons, pr2_some, pr1_some, enR_rt, enR_nx, rd, List.map_cons, List.map_nil, List.length_cons, List.length_nil, Nat.reduceAdd, Nat.reduceSub, List.replicate, List.cons_append, List.nil_append, List.set_cons_zero, List.set_cons_succ, List.getD_cons_zero, List.getD_cons_succ, l1, l3, l4, u2, al, len_l, List.length_map, cB_eq_0, hne, hx, cB_eq_s, t0s, t0n, t1s, t_bb, t_hb, t_bh, t_hh, optN, n0, nn, Bool.not_true, Bool.not_false]
end
end K69
set_option Elab.async false
set_option linter.all false
set_option maxRecDepth 100000
set_option maxHeartbeats 4000000
namespace K69
open PySem Ev
section
variable {n : Nat} {tb : List Nat}
theorem idem_ok (k : Nat) (V : Val n tb) (τ : Tape) : callF P (k + 2) 11 [tT tb, nI n] τ = some (.list (((List.range n).filter fun a => decide (o tb n a a = a)).map nI), τ) := by
  have c := fil_r (cf := callF P (k + 1)) (γ := [some (tT tb), some (nI n), none]) (τ := τ) (i := 2) (n := n) (a := .v 1) (cond := .cmp .eq (.call 0 [(.v 0), (.v 1), (.v 2), (.v 2)]) (.v 2)) (p := fun a => decide (o tb n a a = a)) (nmil V) (by simp) (by simp only [runB_eq, x_nil, x_cons, x_set, x_own, x_par, x_ret, x_ite, x_frz, e_v, e_c, e_yes, e_tup, e_lst, e_bin, e_cmp, e_isN, e_notN, e_and, e_or, e_not, e_ite, e_ix, e_slT, e_b1, e_b2, e_call, e_nil, e_cons, lft_some, un1_some, bi2_some, tB1_some, pk_t, pk_f, anK_t, anK_f, orK_t, orK_f, notK_some, csK_some, csM_some, mk1_some, clK_some, thS_nx, thS_rt, stG_some, nxT_some, rtG_some, bG_n, bG_t, bG_l, bsG_some, bs_nil, bs_cons, pr2_some, pr1_some, enR_rt, enR_nx, rd, List.map_cons, List.map_nil, List.length_cons, List.length_nil, Nat.reduceAdd, Nat.reduceSub, List.replicate, List.cons_append, List.nil_append, List.set_cons_zero, List.set_cons_succ, List.getD_cons_zero, List.getD_cons_succ]) fun x hx => by simp only [runB_eq, x_nil, x_cons, x_set, x_own, x_par, x_ret, x_ite, x_frz, e_v, e_c, e_yes, e_tup, e_lst, e_bin, e_cmp, e_isN, e_notN, e_and, e_or, e_not, e_ite, e_ix, e_slT, e_b1, e_b2, e_call, e_nil, e_cons, lft_some, un1_some, bi2_some, tB1_some, pk_t, pk_f, anK_t, anK_f, orK_t, orK_f, notK_some, csK_some, csM_some, mk1_some, clK_some, thS_nx, thS_rt, stG_some, nxT_some, rtG_some, bG_n, bG_t, bG_l, bsG_some, bs_nil, bs_cons, pr2_some, pr1_some, enR_rt, enR_nx, rd, List.map_cons, List.map_nil, List.length_cons, List.length_nil, Nat.reduceAdd, Nat.reduceSub, List.replicate, List.cons_append, List.nil_append, List.set_cons_zero, List.set_cons_succ, List.getD_cons_zero, List.getD_cons_succ, times_ok k V, hx, cB_eq_n]
  simp only [c11, ir_idempotents, runB_eq, x_nil, x_cons, x_set, x_own, x_par, x_ret, x_ite, x_frz, e_v, e_c, e_yes, e_tup, e_lst, e_bin, e_cmp, e_isN, e_notN, e_and, e_or, e_not, e_ite, e_ix, e_slT, e_b1, e_b2, e_call, e_nil, e_cons, lft_some, un1_some, bi2_some, tB1_some, pk_t, pk_f, anK_t, anK_f, orK_t, orK_f, notK_some, csK_some, csM_some, mk1_some, clK_some, thS_nx, thS_rt, stG_some, nxT_some, rtG_some, bG_n, bG_t, bG_l, bsG_some, bs_nil, bs_cons, pr2_some, pr1_some, enR_rt, enR_nx, rd, List.map_cons, List.map_nil, List.length_cons, List.length_nil, Nat.reduceAdd, Nat.reduceSub, List.replicate, List.cons_append, List.nil_append, List.set_cons_zero, List.set_cons_succ, List.getD_cons_zero, List.getD_cons_succ, c]
def cen (tb : List Nat) (n a : Nat) : Bool := (List.range n).all fun b => decide (o tb n a b = o tb n b a)
theorem centre_ok (k : Nat) (V : Val n tb) (τ : Tape) : callF P (k + 2) 9 [tT tb, nI n] τ = some (.list (((List.range n).filter (cen tb n)).map nI), τ) := by
  have lp := for_pre (cf := callF P (k + 1)) (τ := τ) (tg := .n 3) (k := .r1) (args := [(.v 1)]) (b := [.ite (.b1 .all (.comp [4] (.n 4) .r1 [(.v 1)] .yes (.cmp .eq (.call 0 [(.v 0), (.v 1), (.v 3), (.v 4)]) (.call 0 [(.v 0), (.v 1), (.v 4), (.v 3)])))) [.app 2 (.v 3)] []]) (ks := [3]) (G := [.p, .p, .o, .u, .u])
    (List.range n) nI (fun p => [some (tT tb), some (nI n), some (.list ((p.filter (cen tb n)).map nI)), none, none]) (ds := [nI n]) (by simp only [runB_eq, x_nil, x_cons, x_set, x_own, x_par, x_ret, x_ite, x_frz, e_v, e_c, e_yes, e_tup, e_lst, e_bin, e_cmp, e_isN, e_notN, e_and, e_or, e_not, e_ite, e_ix, e_slT, e_b1, e_b2, e_call, e_nil, e_cons, lft_some, un1_some, bi2_some, tB1_some, pk_t, pk_f, anK_t, anK_f, orK_t, orK_f, notK_some, csK_some, csM_some, mk1_some, clK_some, thS_nx, thS_rt, stG_some, nxT_some, rtG_some, bG_n, bG_t, bG_l, bsG_some, bs_nil, bs_cons, pr2_some, pr1_some, enR_rt, enR_nx, rd, List.map_cons, List.map_nil, List.length_cons, List.length_nil, Nat.reduceAdd, Nat.reduceSub, List.replicate, List.cons_append, List.nil_append, List.set_cons_zero, List.set_cons_succ, List.getD_cons_zero, List.getD_cons_succ]) (range_n n (nmil V)) fun p x q e => by
      have hx : x < n := List.mem_range.mp (by rw [e]; simp)
      have hp : p.length ≤ 6 := by
        have := congrArg List.length e
        rw [List.length_range, List.length_append] at this
        have := V.small
        omega
      have c := all_r (cf := callF P (k + 1)) (γ := [some (tT tb), some (nI n), some (.list ((p.filter (cen tb n)).map nI)), some (nI x), none]) (τ := τ) (i := 4) (n := n) (a := .v 1) (elt := .cmp .eq (.call 0 [(.v 0), (.v 1), (.v 3), (.v 4)]) (.call 0 [(.v 0), (.v 1), (.v 4), (.v 3)])) (p := fun b => decide (o tb n x b = o tb n b x)) (nmil V) (by simp only [runB_eq, x_nil, x_cons, x_set, x_own, x_par, x_ret, x_ite, x_frz, e_v, e_c, e_yes, e_tup, e_lst, e_bin, e_cmp, e_isN, e_notN, e_and, e_or, e_not, e_ite, e_ix, e_slT, e_b1, e_b2, e_call, e_nil, e_cons, lft_some, un1_some, bi2_some, tB1_some, pk_t, pk_f, anK_t, anK_f, orK_t, orK_f, notK_some, csK_some, csM_some, mk1_some, clK_some, thS_nx, thS_rt, stG_some, nxT_some, rtG_some, bG_n, bG_t, bG_l, bsG_some, bs_nil, bs_cons, pr2_some, pr1_some, enR_rt, enR_nx, rd, List.map_cons, List.map_nil, List.length_cons, List.length_nil, Nat.reduceAdd, Nat.reduceSub, List.replicate, List.cons_append, List.nil_append, List.set_cons_zero, List.set_cons_succ, List.getD_cons_zero, List.getD_cons_succ])
        fun b hb => by simp only [runB_eq, x_nil, x_cons, x_set, x_own, x_par, x_ret, x_ite, x_frz, e_v, e_c, e_yes, e_tup, e_lst, e_bin, e_cmp, e_isN, e_notN, e_and, e_or, e_not, e_ite, e_ix, e_slT, e_b1, e_b2, e_call, e_nil, e_cons, lft_some, un1_some, bi2_some, tB1_some, pk_t, pk_f, anK_t, anK_f, orK_t, orK_f, notK_some, csK_some, csM_some, mk1_some, clK_some, thS_nx, thS_rt, stG_some, nxT_some, rtG_some, bG_n, bG_t, bG_l, bsG_some, bs_nil, bs_cons, pr2_some, pr1_some, enR_rt, enR_nx, rd, List.map_cons, List.map_nil, List.length_cons, List.length_nil, Nat.reduceAdd, Nat.reduceSub, List.replicate, List.cons_append, List.nil_append, List.set_cons_zero, List.set_cons_succ, List.getD_cons_zero, List.getD_cons_succ, times_ok k V, hx, hb, cB_eq_n]
      have c2 := (e_b1 _ _ _ _ _).symm.trans c
      refine ⟨[some (tT tb), some (nI n), some (.list ((p.filter (cen tb n)).map nI)), some (nI x), none], [some (tT tb), some (nI n), some (.list (((p ++ [x]).filter (cen tb n)).map nI)), some (nI x), none], by simp only [bindT]; rfl, ?_, rfl⟩
      cases q : cen tb n x with
      | true =>
        have q2 : ((List.range n).all fun b => decide (o tb n x b = o tb n b x)) = true := q
        have ap := x_app (cf := callF P (k + 1)) (γ := [some (tT tb), some (nI n), some (.list ((p.filter (cen tb n)).map nI)), some (nI x), none]) (τ := τ) (τ' := τ) (i := 2) (e := .v 3) (y := nI x) (xs := (p.filter (cen tb n)).map nI) (by simp only [runB_eq, x_nil, x_cons, x_set, x_own, x_par, x_ret, x_ite, x_frz, e_v, e_c, e_yes, e_tup, e_lst, e_bin, e_cmp, e_isN, e_notN, e_and, e_or, e_not, e_ite, e_ix, e_slT, e_b1, e_b2, e_call, e_nil, e_cons, lft_some, un1_some, bi2_some, tB1_some, pk_t, pk_f, anK_t, anK_f, orK_t, orK_f, notK_some, csK_some, csM_some, mk1_some, clK_some, thS_nx, thS_rt, stG_some, nxT_some, rtG_some, bG_n, bG_t, bG_l, bsG_some, bs_nil, bs_cons, pr2_some, pr1_some, enR_rt, enR_nx, rd, List.map_cons, List.map_nil, List.length_cons, List.length_nil, Nat.reduceAdd, Nat.reduceSub, List.replicate, List.cons_append, List.nil_append, List.set_cons_zero, List.set_cons_succ, List.getD_cons_zero, List.getD_cons_succ]) rfl (by
          rw [List.length_map]
          have := List.length_filter_le (cen tb n) p
          exact Nat.lt_of_le_of_lt (Nat.le_trans this hp) (by decide))
        have em : ((p ++ [x]).filter (cen tb n)).map nI = (p.filter (cen tb n)).map nI ++ [nI x] := by
          rw [List.filter_append, List.map_append, List.filter_cons, q]
          rfl
        simp only [runB_eq, x_nil, x_cons, x_set, x_own, x_par, x_ret, x_ite, x_frz, e_v, e_c, e_yes, e_tup, e_lst, e_bin, e_cmp, e_isN, e_notN, e_and, e_or, e_not, e_ite, e_ix, e_slT, e_b1, e_b2, e_call, e_nil, e_cons, lft_some, un1_some, bi2_some, tB1_some, pk_t, pk_f, anK_t, anK_f, orK_t, orK_f, notK_some, csK_some, csM_some, mk1_some, clK_some, thS_nx, thS_rt, stG_some, nxT_some, rtG_some, bG_n, bG_t, bG_l, bsG_some, bs_nil, bs_cons, pr2_some, pr1_some, enR_rt, enR_nx, rd, List.map_cons, List.map_nil, List.length_cons, List.length_nil, Nat.reduceAdd, Nat.reduceSub, List.replicate, List.cons_append, List.nil_append, List.set_cons_zero, List.set_cons_succ, List.getD_cons_zero, List.getD_cons_succ, c2, q2, ap, em]
      | false =>
        have q2 : ((List.range n).all fun b => decide (o tb n x b = o tb n b x)) = false := q
        have em : (p ++ [x]).filter (cen tb n) = p.filter (cen tb n) := by
          rw [List.filter_append, List.filter_cons, q]
          simp
        simp only [runB_eq, x_nil, x_cons, x_set, x_own, x_par, x_ret, x_ite, x_frz, e_v, e_c, e_yes, e_tup, e_lst, e_bin, e_cmp, e_isN, e_notN, e_and, e_or, e_not, e_ite, e_ix, e_slT, e_b1, e_b2, e_call, e_nil, e_cons, lft_some, un1_some, bi2_some, tB1_some, pk_t, pk_f, anK_t, anK_f, orK_t, orK_f, notK_some, csK_some, csM_some, mk1_some, clK_some, thS_nx, thS_rt, stG_some, nxT_some, rtG_some, bG_n, bG_t, bG_l, bsG_some, bs_nil, bs_cons, pr2_some, pr1_some, enR_rt, enR_nx, rd, List.map_cons, List.map_nil, List.length_cons, List.length_nil, Nat.reduceAdd, Nat.reduceSub, List.replicate, List.cons_append, List.nil_append, List.set_cons_zero, List.set_cons_succ, List.getD_cons_zero, List.getD_cons_succ, c2, q2, em]
  have e0 : (some (PyData.list []) : Option D) = some (.list ((([] : List Nat).filter (cen tb n)).map nI)) := rfl
  simp only [c9, ir_centre, runB_eq, x_nil, x_cons, x_set, x_own, x_par, x_ret, x_ite, x_frz, e_v, e_c, e_yes, e_tup, e_lst, e_bin, e_cmp, e_isN, e_notN, e_and, e_or, e_not, e_ite, e_ix, e_slT, e_b1, e_b2, e_call, e_nil, e_cons, lft_some, un1_some, bi2_some, tB1_some, pk_t, pk_f, anK_t, anK_f, orK_t, orK_f, notK_some, csK_some, csM_some, mk1_some, clK_some, thS_nx, thS_rt, stG_some, nxT_some, rtG_some, bG_n, bG_t, bG_l, bsG_some, bs_nil, bs_cons, pr2_some, pr1_some, enR_rt, enR_nx, rd, List.map_cons, List.map_nil, List.length_cons, List.length_nil, Nat.reduceAdd, Nat.reduceSub, List.replicate, List.cons_append, List.nil_append, List.set_cons_zero, List.set_cons_succ, List.getD_cons_zero, List.getD_cons_succ]
  rw [e0, lp]
  simp only [runB_eq, x_nil, x_cons, x_set, x_own, x_par, x_ret, x_ite, x_frz, e_v, e_c, e_yes, e_tup, e_lst, e_bin, e_cmp, e_isN, e_notN, e_and, e_or, e_not, e_ite, e_ix, e_slT, e_b1, e_b2, e_call, e_nil, e_cons, lft_some, un1_some, bi2_some, tB1_some, pk_t, pk_f, anK_t, anK_f, orK_t, orK_f, notK_some, csK_some, csM_some, mk1_some, clK_some, thS_nx, thS_rt, stG_some, nxT_some, rtG_some, bG_n, bG_t, bG_l, bsG_some, bs_nil, bs_cons, pr2_some, pr1_some, enR_rt, enR_nx, rd, List.map_cons, List.map_nil, List.length_cons, List.length_nil, Nat.reduceAdd, Nat.reduceSub, List.replicate, List.cons_append, List.nil_append, List.set_cons_zero, List.set_cons_succ, List.getD_cons_zero, List.getD_cons_succ]
def prs (tb : List Nat) (n : Nat) : List Nat → Bool
  | [a, b] => decide (o tb n a b = o tb n b a)
  | _ => false
theorem pairs_ok (k : Nat) (V : Val n tb) (τ : Tape) : callF P (k + 2) 10 [tT tb, nI n] τ = some (nI ((prods n 2).filter (prs tb n)).length, τ) := by
  have tu := tuples_ok k (n := n) (m := 2) V.small (by decide) τ
  have tu2 : callF P (k + 1) 3 [nI n, .int 2] τ = some (.list ((prods n 2).map encT), τ) := tu
  have c := ev_c1 (cf := callF P (k + 1)) (own := [2, 3]) (tg := .t [(.n 2), (.n 3)]) (k := .seq) (args := [(.call 3 [(.v 1), (.c (.int 2))])]) (cond := .cmp .eq (.call 0 [(.v 0), (.v 1), (.v 2), (.v 3)]) (.call 0 [(.v 0), (.v 1), (.v 3), (.v 2)])) (elt := .c (.int 1)) (γ := [some (tT tb), some (nI n), none, none]) (τ := τ) (prods n 2) encT (prs tb n) (fun _ => .int 1) (ds := [.list ((prods n 2).map encT)])
    (by simp only [runB_eq, x_nil, x_cons, x_set, x_own, x_par, x_ret, x_ite, x_frz, e_v, e_c, e_yes, e_tup, e_lst, e_bin, e_cmp, e_isN, e_notN, e_and, e_or, e_not, e_ite, e_ix, e_slT, e_b1, e_b2, e_call, e_nil, e_cons, lft_some, un1_some, bi2_some, tB1_some, pk_t, pk_f, anK_t, anK_f, orK_t, orK_f, notK_some, csK_some, csM_some, mk1_some, clK_some, thS_nx, thS_rt, stG_some, nxT_some, rtG_some, bG_n, bG_t, bG_l, bsG_some, bs_nil, bs_cons, pr2_some, pr1_some, enR_rt, enR_nx, rd, List.map_cons, List.map_nil, List.length_cons, List.length_nil, Nat.reduceAdd, Nat.reduceSub, List.replicate, List.cons_append, List.nil_append, List.set_cons_zero, List.set_cons_succ, List.getD_cons_zero, List.getD_cons_succ, tu2]) (seq_l _) rfl (fun row hr => by
      obtain ⟨a, b, rfl, ha, hb⟩ := row2 hr
      refine ⟨[some (tT tb), some (nI n), some (nI a), some (nI b)], by simp only [encT, List.map_cons, List.map_nil, bindT, bindTs, Option.bind_some]; rfl, ?_, fun _ => by simp only [runB_eq, x_nil, x_cons, x_set, x_own, x_par, x_ret, x_ite, x_frz, e_v, e_c, e_yes, e_tup, e_lst, e_bin, e_cmp, e_isN, e_notN, e_and, e_or, e_not, e_ite, e_ix, e_slT, e_b1, e_b2, e_call, e_nil, e_cons, lft_some, un1_some, bi2_some, tB1_some, pk_t, pk_f, anK_t, anK_f, orK_t, orK_f, notK_some, csK_some, csM_some, mk1_some, clK_some, thS_nx, thS_rt, stG_some, nxT_some, rtG_some, bG_n, bG_t, bG_l, bsG_some, bs_nil, bs_cons, pr2_some, pr1_some, enR_rt, enR_nx, rd, List.map_cons, List.map_nil, List.length_cons, List.length_nil, Nat.reduceAdd, Nat.reduceSub, List.replicate, List.cons_append, List.nil_append, List.set_cons_zero, List.set_cons_succ, List.getD_cons_zero, List.getD_cons_succ]⟩
      have e : evalE (callF P (k + 1)) (.cmp .eq (.call 0 [(.v 0), (.v 1), (.v 2), (.v 3)]) (.call 0 [(.v 0), (.v 1), (.v 3), (.v 2)])) [some (tT tb), some (nI n), some (nI a), some (nI b)] τ = some (.bool (prs tb n [a, b]), τ) := by simp only [runB_eq, x_nil, x_cons, x_set, x_own, x_par, x_ret, x_ite, x_frz, e_v, e_c, e_yes, e_tup, e_lst, e_bin, e_cmp, e_isN, e_notN, e_and, e_or, e_not, e_ite, e_ix, e_slT, e_b1, e_b2, e_call, e_nil, e_cons, lft_some, un1_some, bi2_some, tB1_some, pk_t, pk_f, anK_t, anK_f, orK_t, orK_f, notK_some, csK_some, csM_some, mk1_some, clK_some, thS_nx, thS_rt, stG_some, nxT_some, rtG_some, bG_n, bG_t, bG_l, bsG_some, bs_nil, bs_cons, pr2_some, pr1_some, enR_rt, enR_nx, rd, List.map_cons, List.map_nil, List.length_cons, List.length_nil, Nat.reduceAdd, Nat.reduceSub, List.replicate, List.cons_append, List.nil_append, List.set_cons_zero, List.set_cons_succ, List.getD_cons_zero, List.getD_cons_succ, times_ok k V, ha, hb, cB_eq_n, prs]
      rw [e]
      rfl)
  simp only [c10, ir_commuting_pairs, runB_eq, x_nil, x_cons, x_set, x_own, x_par, x_ret, x_ite, x_frz, e_v, e_c, e_yes, e_tup, e_lst, e_bin, e_cmp, e_isN, e_notN, e_and, e_or, e_not, e_ite, e_ix, e_slT, e_b1, e_b2, e_call, e_nil, e_cons, lft_some, un1_some, bi2_some, tB1_some, pk_t, pk_f, anK_t, anK_f, orK_t, orK_f, notK_some, csK_some, csM_some, mk1_some, clK_some, thS_nx, thS_rt, stG_some, nxT_some, rtG_some, bG_n, bG_t, bG_l, bsG_some, bs_nil, bs_cons, pr2_some, pr1_some, enR_rt, enR_nx, rd, List.map_cons, List.map_nil, List.length_cons, List.length_nil, Nat.reduceAdd, Nat.reduceSub, List.replicate, List.cons_append, List.nil_append, List.set_cons_zero, List.set_cons_succ, List.getD_cons_zero, List.getD_cons_succ, c, len_l, List.length_map]
theorem pairs_sum (n : Nat) : ((prods n 2).filter (prs tb n)).length = (((List.range n).map fun a => ((List.range n).filter fun b => decide (o tb n a b = o tb n b a)).length)).sum := by
  have e1 : prods n 1 = (List.range n).map fun a => [a] := by
    simp only [prods, List.flatMap_cons, List.flatMap_nil, List.append_nil, List.nil_append]
  have e2 : prods n 2 = (prods n 1).flatMap fun row => (List.range n).map fun v => row ++ [v] := rfl
  rw [e2, e1]
  generalize hL : List.range n = L
  suffices h : ∀ M : List Nat, (((M.map fun a => [a]).flatMap fun row => L.map fun v => row ++ [v]).filter (prs tb n)).length = ((M.map fun a => (L.filter fun b => decide (o tb n a b = o tb n b a)).length)).sum from h L
  intro M
  induction M with
  | nil => rfl
  | cons a r ih =>
    rw [List.map_cons, List.flatMap_cons, List.filter_append, List.length_append, ih, List.map_cons, List.sum_cons]
    congr 1
    rw [List.filter_map, List.length_map]
    rfl
end
end K69
set_option Elab.async false
set_option linter.all false
set_option maxRecDepth 100000
set_option maxHeartbeats 4000000
namespace K69
open PySem Ev
/-! ### equal data -/
structure Fine (d : D) : Prop where
  lay : PyData.canLay0 d = true
  dep : PyData.depth d ≤ 50
  nd : ∀ kvs, d ≠ .dict kvs
structure FineL (ds : List D) : Prop where
  lay : PyData.canLayAll0 ds = true
  dep : PyData.depthAll ds ≤ 49
theorem fl_nil : FineL [] := ⟨by simp only [PyData.canLayAll0], by simp only [PyData.depthAll]; omega⟩
theorem fl_cons {d : D} {ds : List D} (h : Fine d) (hd : PyData.depth d ≤ 49) (t : FineL ds) : FineL (d :: ds) :=
  ⟨by simp only [PyData.canLayAll0, h.lay, t.lay, Bool.and_self], by simp only [PyData.depthAll]; have := t.dep; omega⟩
theorem f_tup {ds : List D} (h : FineL ds) : Fine (.tuple ds) := ⟨by simp only [PyData.canLay0, h.lay], by simp only [PyData.depth]; have := h.dep; omega, fun _ z => nomatch z⟩
theorem f_lst {ds : List D} (h : FineL ds) : Fine (.list ds) := ⟨by simp only [PyData.canLay0, h.lay], by simp only [PyData.depth]; have := h.dep; omega, fun _ z => nomatch z⟩
theorem eq_self {d : D} (h : Fine d) : opCmp .eq d d = some true := by
  simp only [opCmp, cEq]
  rw [if_pos (by unfold shallow; rw [decide_eq_true (Nat.le_trans h.dep (by decide))]; rfl), eqv_refl d h.nd h.lay]
theorem cB_eq_self {d : D} (h : Fine d) : cB .eq d d = some (.bool true) := by rw [cB, eq_self h]; rfl
theorem cB_ne_self {d : D} (h : Fine d) : cB .ne d d = some (.bool false) := by
  have e : opCmp .ne d d = (opCmp .eq d d).map (!·) := rfl
  rw [cB, e, eq_self h]
  rfl
theorem dep_ns : ∀ L : List Nat, PyData.depthAll (L.map nI) = 0 ∧ PyData.canLayAll0 (L.map nI) = true
  | [] => ⟨by simp only [List.map_nil, PyData.depthAll], by simp only [List.map_nil, PyData.canLayAll0]⟩
  | a :: r => by
    obtain ⟨h1, h2⟩ := dep_ns r
    refine ⟨?_, ?_⟩
    · rw [List.map_cons, PyData.depthAll, h1]; simp [nI, PyData.depth]
    · rw [List.map_cons, PyData.canLayAll0, h2]; simp [nI, PyData.canLay0]
theorem f_ns (L : List Nat) : Fine (.list (L.map nI)) := f_lst ⟨(dep_ns L).2, by rw [(dep_ns L).1]; omega⟩
theorem f_enc (L : List Nat) : Fine (encT L) ∧ PyData.depth (encT L) = 1 := ⟨f_tup ⟨(dep_ns L).2, by rw [(dep_ns L).1]; omega⟩, by unfold encT; simp only [PyData.depth, (dep_ns L).1]⟩
theorem f_nI (a : Nat) : Fine (nI a) ∧ PyData.depth (nI a) = 0 := ⟨⟨by simp [nI, PyData.canLay0], by simp [nI, PyData.depth], fun _ z => nomatch z⟩, by simp [nI, PyData.depth]⟩
theorem f_none : Fine .none ∧ PyData.depth .none = 0 := ⟨⟨by simp [PyData.canLay0], by simp [PyData.depth], fun _ z => nomatch z⟩, by simp [PyData.depth]⟩
theorem f_str {x : Str} (h : PyData.strOk x = true) : Fine (.str x) ∧ PyData.depth (.str x) = 0 := ⟨⟨by simpa [PyData.canLay0] using h, by simp [PyData.depth], fun _ z => nomatch z⟩, by simp [PyData.depth]⟩
theorem f_opt (x : Option Nat) : Fine (optN x) ∧ PyData.depth (optN x) = 0 := by
  cases x with
  | none => exact f_none
  | some a => exact f_nI a
theorem f_two {a b : D} {i j : Nat} (ha : Fine a ∧ PyData.depth a = i) (hb : Fine b ∧ PyData.depth b = j) (h : i ≤ 10 ∧ j ≤ 10) : Fine (.tuple [a, b]) ∧ PyData.depth (.tuple [a, b]) = max i j + 1 := by
  refine ⟨f_tup (fl_cons ha.1 (by omega) (fl_cons hb.1 (by omega) fl_nil)), ?_⟩
  simp only [PyData.depth, PyData.depthAll, ha.2, hb.2]
  omega
theorem f_told (x : Option (List Nat)) : Fine (told x) := by
  cases x with
  | none => exact f_tup (fl_cons (f_str (by decide +kernel)).1 (by simp [PyData.depth]) fl_nil)
  | some r => exact (f_two (f_str (by decide +kernel)) (f_enc r) ⟨by decide, by decide⟩).1
section
variable {n : Nat} {tb : List Nat}
theorem f_lack : Fine (lackD tb n) ∧ PyData.depth (lackD tb n) = 1 := by
  unfold lackD
  cases (List.range n).find? (uni tb n) with
  | none => exact f_two (f_str (by decide +kernel)) f_none ⟨by decide, by decide⟩
  | some e => exact f_two (f_str (by decide +kernel)) (f_opt _) ⟨by decide, by decide⟩
theorem f_tail : Fine (tailD tb n) := by
  unfold tailD
  cases (prods n 1).find? (B_idem tb n) with
  | none => cases (prods n 2).find? (B_comm tb n) <;> exact (f_two (f_str (by decide +kernel)) f_lack ⟨by decide, by decide⟩).1
  | some q => cases (List.range n).find? (uni tb n) <;> exact (f_two (f_str (by decide +kernel)) f_lack ⟨by decide, by decide⟩).1
theorem f_group : Fine (groupD tb n) := by
  unfold groupD
  cases (prods n 2).find? (B_comm tb n) with
  | none => exact (f_two (f_str (by decide +kernel)) f_none ⟨by decide, by decide⟩).1
  | some r => exact (f_two (f_str (by decide +kernel)) (f_two (f_str (by decide +kernel)) (f_enc r) ⟨by decide, by decide⟩) ⟨by decide, by decide⟩).1
theorem f_kind : Fine (kindD tb n) := by
  unfold kindD
  cases (prods n 3).find? (B_assoc tb n) with
  | some r =>
    cases (prods n 3).find? (B_cancel tb n) with
    | none => cases (List.range n).find? (uni tb n) <;> exact (f_two (f_str (by decide +kernel)) (f_two (f_str (by decide +kernel)) (f_enc r) ⟨by decide, by decide⟩) ⟨by decide, by decide⟩).1
    | some q => exact (f_two (f_str (by decide +kernel)) (f_two (f_str (by decide +kernel)) (f_enc r) ⟨by decide, by decide⟩) ⟨by decide, by decide⟩).1
  | none =>
    cases (List.range n).find? (uni tb n) with
    | none => exact f_tail (n := n) (tb := tb)
    | some e =>
      show Fine (match (List.range n).find? (fun a => !inv tb n e a) with
        | none => groupD tb n
        | some _ => tailD tb n)
      cases (List.range n).find? (fun a => !inv tb n e a) with
      | none => exact f_group (n := n) (tb := tb)
      | some z => exact f_tail (n := n) (tb := tb)
end
end K69
set_option Elab.async false
set_option linter.all false
set_option maxRecDepth 100000
set_option maxHeartbeats 8000000
namespace K69
open PySem Ev
section
variable {n : Nat} {tb : List Nat}
theorem cells_r (cf : CF) (V : Val n tb) (x4 x5 x6 x7 : Option D) (i j : Nat) (τ : Tape) (cond : IE) (c : Nat → Nat → Bool) (h : ∀ a b, a < n → b < n → evalE cf cond [none, some .none, some (tT tb), some (nI n), x4, x5, x6, x7, some (nI a), some (nI b)] τ = some (.bool (c a b), τ)) (a : Nat) (ha : a < n) :
    evalE cf (.b1 .len (.comp [9] (.n 9) .r1 [(.v 3)] cond (.v 9))) [none, some .none, some (tT tb), some (nI n), x4, x5, x6, x7, some (nI a), none] τ = some (nI ((List.range n).filter (c a)).length, τ) :=
  flen_r (nmil V) (by simp) (by simp only [runB_eq, x_nil, x_cons, x_set, x_own, x_par, x_ret, x_ite, x_frz, e_v, e_c, e_yes, e_tup, e_lst, e_bin, e_cmp, e_isN, e_notN, e_and, e_or, e_not, e_ite, e_ix, e_slT, e_b1, e_b2, e_call, e_nil, e_cons, lft_some, un1_some, bi2_some, tB1_some, pk_t, pk_f, anK_t, anK_f, orK_t, orK_f, notK_some, csK_some, csM_some, mk1_some, clK_some, thS_nx, thS_rt, stG_some, nxT_some, rtG_some, bG_n, bG_t, bG_l, bsG_some, bs_nil, bs_cons, pr2_some, pr1_some, enR_rt, enR_nx, rd, List.map_cons, List.map_nil, List.length_cons, List.length_nil, Nat.reduceAdd, Nat.reduceSub, List.replicate, List.cons_append, List.nil_append, List.set_cons_zero, List.set_cons_succ, List.getD_cons_zero, List.getD_cons_succ]) fun b hb => h a b ha hb
theorem zero_c (cf : CF) (V : Val n tb) (x4 x5 x6 x7 : Option D) (τ : Tape) :
    evalE cf (.comp [8] (.n 8) .r1 [(.v 3)] (.cmp .eq (.b1 .len (.comp [9] (.n 9) .r1 [(.v 3)] (.or (.cmp .ne (.ix (.v 2) (.bin .add (.bin .mul (.v 8) (.v 3)) (.v 9))) (.v 8)) (.cmp .ne (.ix (.v 2) (.bin .add (.bin .mul (.v 9) (.v 3)) (.v 8))) (.v 8))) (.v 9))) (.c (.int 0))) (.v 8)) [none, some .none, some (tT tb), some (nI n), x4, x5, x6, x7, none, none] τ
      = some (.list (((List.range n).filter (zer tb n)).map nI), τ) :=
  fil_r (nmil V) (by simp) (by simp only [runB_eq, x_nil, x_cons, x_set, x_own, x_par, x_ret, x_ite, x_frz, e_v, e_c, e_yes, e_tup, e_lst, e_bin, e_cmp, e_isN, e_notN, e_and, e_or, e_not, e_ite, e_ix, e_slT, e_b1, e_b2, e_call, e_nil, e_cons, lft_some, un1_some, bi2_some, tB1_some, pk_t, pk_f, anK_t, anK_f, orK_t, orK_f, notK_some, csK_some, csM_some, mk1_some, clK_some, thS_nx, thS_rt, stG_some, nxT_some, rtG_some, bG_n, bG_t, bG_l, bsG_some, bs_nil, bs_cons, pr2_some, pr1_some, enR_rt, enR_nx, rd, List.map_cons, List.map_nil, List.length_cons, List.length_nil, Nat.reduceAdd, Nat.reduceSub, List.replicate, List.cons_append, List.nil_append, List.set_cons_zero, List.set_cons_succ, List.getD_cons_zero, List.getD_cons_succ]) fun x hx => by
    have f := cells_r cf V x4 x5 x6 x7 0 0 τ (.or (.cmp .ne (.ix (.v 2) (.bin .add (.bin .mul (.v 8) (.v 3)) (.v 9))) (.v 8)) (.cmp .ne (.ix (.v 2) (.bin .add (.bin .mul (.v 9) (.v 3)) (.v 8))) (.v 8))) (fun a b => !decide (o tb n a b = a) || !decide (o tb n b a = a)) (fun a b ha hb => by simp only [runB_eq, x_nil, x_cons, x_set, x_own, x_par, x_ret, x_ite, x_frz, e_v, e_c, e_yes, e_tup, e_lst, e_bin, e_cmp, e_isN, e_notN, e_and, e_or, e_not, e_ite, e_ix, e_slT, e_b1, e_b2, e_call, e_nil, e_cons, lft_some, un1_some, bi2_some, tB1_some, pk_t, pk_f, anK_t, anK_f, orK_t, orK_f, notK_some, csK_some, csM_some, mk1_some, clK_some, thS_nx, thS_rt, stG_some, nxT_some, rtG_some, bG_n, bG_t, bG_l, bsG_some, bs_nil, bs_cons, pr2_some, pr1_some, enR_rt, enR_nx, rd, List.map_cons, List.map_nil, List.length_cons, List.length_nil, Nat.reduceAdd, Nat.reduceSub, List.replicate, List.cons_append, List.nil_append, List.set_cons_zero, List.set_cons_succ, List.getD_cons_zero, List.getD_cons_succ, mul_n _ _ (n1000 V), add_n, at_o V, ha, hb, cB_ne_n, orK_b, orB_some]) x hx
    have f2 := (e_b1 _ _ _ _ _).symm.trans f
    simp only [runB_eq, x_nil, x_cons, x_set, x_own, x_par, x_ret, x_ite, x_frz, e_v, e_c, e_yes, e_tup, e_lst, e_bin, e_cmp, e_isN, e_notN, e_and, e_or, e_not, e_ite, e_ix, e_slT, e_b1, e_b2, e_call, e_nil, e_cons, lft_some, un1_some, bi2_some, tB1_some, pk_t, pk_f, anK_t, anK_f, orK_t, orK_f, notK_some, csK_some, csM_some, mk1_some, clK_some, thS_nx, thS_rt, stG_some, nxT_some, rtG_some, bG_n, bG_t, bG_l, bsG_some, bs_nil, bs_cons, pr2_some, pr1_some, enR_rt, enR_nx, rd, List.map_cons, List.map_nil, List.length_cons, List.length_nil, Nat.reduceAdd, Nat.reduceSub, List.replicate, List.cons_append, List.nil_append, List.set_cons_zero, List.set_cons_succ, List.getD_cons_zero, List.getD_cons_succ, f2, cB_eq_0, len0]
    congr 3
    unfold zer
    congr 1
    funext a
    rw [Bool.not_or, Bool.not_not, Bool.not_not]
    congr 1
    rw [Bool.eq_iff_iff]
    simp [eq_comm]
theorem mid_c (cf : CF) (V : Val n tb) (x4 x5 x6 x7 : Option D) (τ : Tape) :
    evalE cf (.comp [8] (.n 8) .r1 [(.v 3)] (.cmp .eq (.b1 .len (.comp [9] (.n 9) .r1 [(.v 3)] (.cmp .ne (.ix (.v 2) (.bin .add (.bin .mul (.v 8) (.v 3)) (.v 9))) (.ix (.v 2) (.bin .add (.bin .mul (.v 9) (.v 3)) (.v 8)))) (.v 9))) (.c (.int 0))) (.v 8)) [none, some .none, some (tT tb), some (nI n), x4, x5, x6, x7, none, none] τ
      = some (.list (((List.range n).filter (cen tb n)).map nI), τ) :=
  fil_r (nmil V) (by simp) (by simp only [runB_eq, x_nil, x_cons, x_set, x_own, x_par, x_ret, x_ite, x_frz, e_v, e_c, e_yes, e_tup, e_lst, e_bin, e_cmp, e_isN, e_notN, e_and, e_or, e_not, e_ite, e_ix, e_slT, e_b1, e_b2, e_call, e_nil, e_cons, lft_some, un1_some, bi2_some, tB1_some, pk_t, pk_f, anK_t, anK_f, orK_t, orK_f, notK_some, csK_some, csM_some, mk1_some, clK_some, thS_nx, thS_rt, stG_some, nxT_some, rtG_some, bG_n, bG_t, bG_l, bsG_some, bs_nil, bs_cons, pr2_some, pr1_some, enR_rt, enR_nx, rd, List.map_cons, List.map_nil, List.length_cons, List.length_nil, Nat.reduceAdd, Nat.reduceSub, List.replicate, List.cons_append, List.nil_append, List.set_cons_zero, List.set_cons_succ, List.getD_cons_zero, List.getD_cons_succ]) fun x hx => by
    have f := cells_r cf V x4 x5 x6 x7 0 0 τ (.cmp .ne (.ix (.v 2) (.bin .add (.bin .mul (.v 8) (.v 3)) (.v 9))) (.ix (.v 2) (.bin .add (.bin .mul (.v 9) (.v 3)) (.v 8)))) (fun a b => !decide (o tb n a b = o tb n b a)) (fun a b ha hb => by simp only [runB_eq, x_nil, x_cons, x_set, x_own, x_par, x_ret, x_ite, x_frz, e_v, e_c, e_yes, e_tup, e_lst, e_bin, e_cmp, e_isN, e_notN, e_and, e_or, e_not, e_ite, e_ix, e_slT, e_b1, e_b2, e_call, e_nil, e_cons, lft_some, un1_some, bi2_some, tB1_some, pk_t, pk_f, anK_t, anK_f, orK_t, orK_f, notK_some, csK_some, csM_some, mk1_some, clK_some, thS_nx, thS_rt, stG_some, nxT_some, rtG_some, bG_n, bG_t, bG_l, bsG_some, bs_nil, bs_cons, pr2_some, pr1_some, enR_rt, enR_nx, rd, List.map_cons, List.map_nil, List.length_cons, List.length_nil, Nat.reduceAdd, Nat.reduceSub, List.replicate, List.cons_append, List.nil_append, List.set_cons_zero, List.set_cons_succ, List.getD_cons_zero, List.getD_cons_succ, mul_n _ _ (n1000 V), add_n, at_o V, ha, hb, cB_ne_n]) x hx
    have f2 := (e_b1 _ _ _ _ _).symm.trans f
    simp only [runB_eq, x_nil, x_cons, x_set, x_own, x_par, x_ret, x_ite, x_frz, e_v, e_c, e_yes, e_tup, e_lst, e_bin, e_cmp, e_isN, e_notN, e_and, e_or, e_not, e_ite, e_ix, e_slT, e_b1, e_b2, e_call, e_nil, e_cons, lft_some, un1_some, bi2_some, tB1_some, pk_t, pk_f, anK_t, anK_f, orK_t, orK_f, notK_some, csK_some, csM_some, mk1_some, clK_some, thS_nx, thS_rt, stG_some, nxT_some, rtG_some, bG_n, bG_t, bG_l, bsG_some, bs_nil, bs_cons, pr2_some, pr1_some, enR_rt, enR_nx, rd, List.map_cons, List.map_nil, List.length_cons, List.length_nil, Nat.reduceAdd, Nat.reduceSub, List.replicate, List.cons_append, List.nil_append, List.set_cons_zero, List.set_cons_succ, List.getD_cons_zero, List.getD_cons_succ, f2, cB_eq_0, len0, Bool.not_not]
    rfl
theorem ints_n : ∀ L : List Nat, intsOf (L.map nI) = some (L.map fun (x : Nat) => (x : Int))
  | [] => rfl
  | a :: r => by rw [List.map_cons, List.map_cons, nI, intsOf, ints_n r]; rfl
theorem sum_n : ∀ L : List Nat, (L.map fun (x : Nat) => (x : Int)).sum = ((L.sum : Nat) : Int)
  | [] => rfl
  | a :: r => by rw [List.map_cons, List.sum_cons, List.sum_cons, sum_n r]; push_cast; rfl
theorem bsum_n (L : List Nat) : opB1 .sum (.list (L.map nI)) = some (nI L.sum) := by
  show bSum (.list (L.map nI)) = _
  unfold bSum
  simp only [seqOf, Option.bind_some, ints_n, Option.map_some, sum_n]
  rfl
theorem sum_c (cf : CF) (V : Val n tb) (x4 x5 x6 x7 : Option D) (τ : Tape) :
    evalE cf (.b1 .sum (.comp [8] (.n 8) .r1 [(.v 3)] .yes (.b1 .len (.comp [9] (.n 9) .r1 [(.v 3)] (.cmp .eq (.ix (.v 2) (.bin .add (.bin .mul (.v 8) (.v 3)) (.v 9))) (.ix (.v 2) (.bin .add (.bin .mul (.v 9) (.v 3)) (.v 8)))) (.v 9))))) [none, some .none, some (tT tb), some (nI n), x4, x5, x6, x7, none, none] τ
      = some (nI ((prods n 2).filter (prs tb n)).length, τ) := by
  have c := comp_r (cf := cf) (γ := [none, some .none, some (tT tb), some (nI n), x4, x5, x6, x7, none, none]) (τ := τ) (i := 8) (n := n) (a := .v 3) (cond := .yes) (elt := .b1 .len (.comp [9] (.n 9) .r1 [(.v 3)] (.cmp .eq (.ix (.v 2) (.bin .add (.bin .mul (.v 8) (.v 3)) (.v 9))) (.ix (.v 2) (.bin .add (.bin .mul (.v 9) (.v 3)) (.v 8)))) (.v 9))) (c := fun _ => true) (y := fun a => nI ((List.range n).filter fun b => decide (o tb n a b = o tb n b a)).length) (nmil V) (by simp only [runB_eq, x_nil, x_cons, x_set, x_own, x_par, x_ret, x_ite, x_frz, e_v, e_c, e_yes, e_tup, e_lst, e_bin, e_cmp, e_isN, e_notN, e_and, e_or, e_not, e_ite, e_ix, e_slT, e_b1, e_b2, e_call, e_nil, e_cons, lft_some, un1_some, bi2_some, tB1_some, pk_t, pk_f, anK_t, anK_f, orK_t, orK_f, notK_some, csK_some, csM_some, mk1_some, clK_some, thS_nx, thS_rt, stG_some, nxT_some, rtG_some, bG_n, bG_t, bG_l, bsG_some, bs_nil, bs_cons, pr2_some, pr1_some, enR_rt, enR_nx, rd, List.map_cons, List.map_nil, List.length_cons, List.length_nil, Nat.reduceAdd, Nat.reduceSub, List.replicate, List.cons_append, List.nil_append, List.set_cons_zero, List.set_cons_succ, List.getD_cons_zero, List.getD_cons_succ])
    fun a ha => ⟨by simp only [tst, evalE, Option.bind_some, truth, Option.map_some], fun _ => cells_r cf V x4 x5 x6 x7 0 0 τ _ (fun a b => decide (o tb n a b = o tb n b a)) (fun a b ha hb => by simp only [runB_eq, x_nil, x_cons, x_set, x_own, x_par, x_ret, x_ite, x_frz, e_v, e_c, e_yes, e_tup, e_lst, e_bin, e_cmp, e_isN, e_notN, e_and, e_or, e_not, e_ite, e_ix, e_slT, e_b1, e_b2, e_call, e_nil, e_cons, lft_some, un1_some, bi2_some, tB1_some, pk_t, pk_f, anK_t, anK_f, orK_t, orK_f, notK_some, csK_some, csM_some, mk1_some, clK_some, thS_nx, thS_rt, stG_some, nxT_some, rtG_some, bG_n, bG_t, bG_l, bsG_some, bs_nil, bs_cons, pr2_some, pr1_some, enR_rt, enR_nx, rd, List.map_cons, List.map_nil, List.length_cons, List.length_nil, Nat.reduceAdd, Nat.reduceSub, List.replicate, List.cons_append, List.nil_append, List.set_cons_zero, List.set_cons_succ, List.getD_cons_zero, List.getD_cons_succ, mul_n _ _ (n1000 V), add_n, at_o V, ha, hb, cB_eq_n]) a ha⟩
  rw [filt_true, ← Function.comp_def (f := nI) (g := fun a => ((List.range n).filter fun b => decide (o tb n a b = o tb n b a)).length), ← List.map_map] at c
  rw [e_b1, c, un1_some, bsum_n, lft_some, pairs_sum]
def words : List Str := ["assoc", "comm", "idem", "medial", "leftdist", "cancel", "divide"]
theorem words_ok (k : Nat) (V : Val n tb) (τ : Tape) : ∀ w ∈ words, ∃ d, Fine d ∧ callF P (k + 4) 5 [.str w, tT tb, nI n] τ = some (d, τ) ∧ callF P (k + 4) 17 [.str w, tT tb, nI n] τ = some (d, τ) := by
  intro w hw
  have main : ∀ {m : Nat} {B : List Nat → Bool}, Word n tb w m B → ∃ d, Fine d ∧ callF P (k + 4) 5 [.str w, tT tb, nI n] τ = some (d, τ) ∧ callF P (k + 4) 17 [.str w, tT tb, nI n] τ = some (d, τ) := fun h => ⟨_, f_told _, law_of_ok k V h τ, lawof_ok (k + 2) V h τ⟩
  simp only [words, List.mem_cons, List.not_mem_nil, or_false] at hw
  rcases hw with rfl | rfl | rfl | rfl | rfl | rfl | rfl
  · exact main (w_assoc V)
  · exact main (w_comm V)
  · exact main (w_idem V)
  · exact main (w_medial V)
  · exact main (w_leftdist V)
  · exact main (w_cancel V)
  · exact main (w_divide V)
theorem rest_ok (k : Nat) (V : Val n tb) (τ : Tape) : execSs (callF P (k + 5)) ir_law.tail [none, some .none, some (tT tb), some (nI n), none, none, none, none, none, none] τ = some (.rt (.bool true) τ) := by
  have lp := for_hit (cf := callF P (k + 5)) (γ := [none, some .none, some (tT tb), some (nI n), none, none, none, none, none, none]) (τ := τ) (tg := .n 4) (k := .seq) (args := [(.lst [(.c (.str "assoc")), (.c (.str "comm")), (.c (.str "idem")), (.c (.str "medial")), (.c (.str "leftdist")), (.c (.str "cancel")), (.c (.str "divide"))])]) (b := [.ite (.cmp .ne (.call 5 [(.v 4), (.v 2), (.v 3)]) (.call 17 [(.v 4), (.v 2), (.v 3)])) [.ret (.c (.bool false))] []]) (ks := [4]) (G := [.u, .st, .p, .p, .u, .u, .u, .u, .u, .u])
    words PyData.str (fun _ => false) (fun _ => .none) (ds := [.list (words.map .str)]) (by simp only [runB_eq, x_nil, x_cons, x_set, x_own, x_par, x_ret, x_ite, x_frz, e_v, e_c, e_yes, e_tup, e_lst, e_bin, e_cmp, e_isN, e_notN, e_and, e_or, e_not, e_ite, e_ix, e_slT, e_b1, e_b2, e_call, e_nil, e_cons, lft_some, un1_some, bi2_some, tB1_some, pk_t, pk_f, anK_t, anK_f, orK_t, orK_f, notK_some, csK_some, csM_some, mk1_some, clK_some, thS_nx, thS_rt, stG_some, nxT_some, rtG_some, bG_n, bG_t, bG_l, bsG_some, bs_nil, bs_cons, pr2_some, pr1_some, enR_rt, enR_nx, rd, List.map_cons, List.map_nil, List.length_cons, List.length_nil, Nat.reduceAdd, Nat.reduceSub, List.replicate, List.cons_append, List.nil_append, List.set_cons_zero, List.set_cons_succ, List.getD_cons_zero, List.getD_cons_succ, words]) (seq_l _) (fun w hw => by
      obtain ⟨d, fd, h1, h2⟩ := words_ok (k + 1) V τ w hw
      refine ⟨[none, some .none, some (tT tb), some (nI n), some (.str w), none, none, none, none, none], by simp only [bindT]; rfl, ?_⟩
      rw [if_neg Bool.false_ne_true]
      exact ⟨_, by simp only [runB_eq, x_nil, x_cons, x_set, x_own, x_par, x_ret, x_ite, x_frz, e_v, e_c, e_yes, e_tup, e_lst, e_bin, e_cmp, e_isN, e_notN, e_and, e_or, e_not, e_ite, e_ix, e_slT, e_b1, e_b2, e_call, e_nil, e_cons, lft_some, un1_some, bi2_some, tB1_some, pk_t, pk_f, anK_t, anK_f, orK_t, orK_f, notK_some, csK_some, csM_some, mk1_some, clK_some, thS_nx, thS_rt, stG_some, nxT_some, rtG_some, bG_n, bG_t, bG_l, bsG_some, bs_nil, bs_cons, pr2_some, pr1_some, enR_rt, enR_nx, rd, List.map_cons, List.map_nil, List.length_cons, List.length_nil, Nat.reduceAdd, Nat.reduceSub, List.replicate, List.cons_append, List.nil_append, List.set_cons_zero, List.set_cons_succ, List.getD_cons_zero, List.getD_cons_succ, h1, h2, cB_ne_self fd]; rfl, rfl⟩)
  have fn : words.find? (fun _ => false) = none := by
    rw [List.find?_eq_none]; simp
  rw [fn] at lp
  have z := fun x4 x5 x6 x7 => zero_c (callF P (k + 5)) V x4 x5 x6 x7 τ
  have m := fun x4 x5 x6 x7 => mid_c (callF P (k + 5)) V x4 x5 x6 x7 τ
  have s := fun x4 x5 x6 x7 => (e_b1 _ _ _ _ _).symm.trans (sum_c (callF P (k + 5)) V x4 x5 x6 x7 τ)
  have u1 := unit_ok (k + 3) V τ
  have u2 := lu_ok (k + 4) V τ
  have z1 := zero_ok (k + 3) V τ
  have ce := centre_ok (k + 3) V τ
  have pa := pairs_ok (k + 3) V τ
  have idm := idem_ok (k + 3) V τ
  have k1 := kind_ok k V τ
  have k2 := lkind_ok (k + 2) V τ
  have hd := fun x4 x6 x7 => hd_ok (callF P (k + 5)) [none, some .none, some (tT tb), some (nI n), x4, some (.list (((List.range n).filter (zer tb n)).map nI)), x6, x7, none, none] τ 5 _ rfl
  rw [List.head?_filter] at hd
  have ic := fun x4 x5 x6 x7 => fil_r (cf := callF P (k + 5)) (γ := [none, some .none, some (tT tb), some (nI n), x4, x5, x6, x7, none, none]) (τ := τ) (i := 8) (n := n) (a := .v 3) (cond := .cmp .eq (.ix (.v 2) (.bin .add (.bin .mul (.v 8) (.v 3)) (.v 8))) (.v 8)) (p := fun a => decide (o tb n a a = a)) (nmil V) (by simp) (by simp only [runB_eq, x_nil, x_cons, x_set, x_own, x_par, x_ret, x_ite, x_frz, e_v, e_c, e_yes, e_tup, e_lst, e_bin, e_cmp, e_isN, e_notN, e_and, e_or, e_not, e_ite, e_ix, e_slT, e_b1, e_b2, e_call, e_nil, e_cons, lft_some, un1_some, bi2_some, tB1_some, pk_t, pk_f, anK_t, anK_f, orK_t, orK_f, notK_some, csK_some, csM_some, mk1_some, clK_some, thS_nx, thS_rt, stG_some, nxT_some, rtG_some, bG_n, bG_t, bG_l, bsG_some, bs_nil, bs_cons, pr2_some, pr1_some, enR_rt, enR_nx, rd, List.map_cons, List.map_nil, List.length_cons, List.length_nil, Nat.reduceAdd, Nat.reduceSub, List.replicate, List.cons_append, List.nil_append, List.set_cons_zero, List.set_cons_succ, List.getD_cons_zero, List.getD_cons_succ]) fun x hx => by simp only [runB_eq, x_nil, x_cons, x_set, x_own, x_par, x_ret, x_ite, x_frz, e_v, e_c, e_yes, e_tup, e_lst, e_bin, e_cmp, e_isN, e_notN, e_and, e_or, e_not, e_ite, e_ix, e_slT, e_b1, e_b2, e_call, e_nil, e_cons, lft_some, un1_some, bi2_some, tB1_some, pk_t, pk_f, anK_t, anK_f, orK_t, orK_f, notK_some, csK_some, csM_some, mk1_some, clK_some, thS_nx, thS_rt, stG_some, nxT_some, rtG_some, bG_n, bG_t, bG_l, bsG_some, bs_nil, bs_cons, pr2_some, pr1_some, enR_rt, enR_nx, rd, List.map_cons, List.map_nil, List.length_cons, List.length_nil, Nat.reduceAdd, Nat.reduceSub, List.replicate, List.cons_append, List.nil_append, List.set_cons_zero, List.set_cons_succ, List.getD_cons_zero, List.getD_cons_succ, mul_n _ _ (n1000 V), add_n, at_o V, hx, cB_eq_n]
  have hd2 := fun x4 x6 x7 => (e_ite _ _ _ _ _ _).symm.trans (hd x4 x6 x7)
  simp only [runB_eq, x_nil, x_cons, x_set, x_own, x_par, x_ret, x_ite, x_frz, e_v, e_c, e_yes, e_tup, e_lst, e_bin, e_cmp, e_isN, e_notN, e_and, e_or, e_not, e_ite, e_ix, e_slT, e_b1, e_b2, e_call, e_nil, e_cons, lft_some, un1_some, bi2_some, tB1_some, pk_t, pk_f, anK_t, anK_f, orK_t, orK_f, notK_some, csK_some, csM_some, mk1_some, clK_some, thS_nx, thS_rt, stG_some, nxT_some, rtG_some, bG_n, bG_t, bG_l, bsG_some, bs_nil, bs_cons, pr2_some, pr1_some, enR_rt, enR_nx, rd, List.map_cons, List.map_nil, List.length_cons, List.length_nil, Nat.reduceAdd, Nat.reduceSub, List.replicate, List.cons_append, List.nil_append, List.set_cons_zero, List.set_cons_succ, List.getD_cons_zero, List.getD_cons_succ] at hd2
  simp only [ir_law, List.tail_cons, runB_eq, x_nil, x_cons, x_set, x_own, x_par, x_ret, x_ite, x_frz, e_v, e_c, e_yes, e_tup, e_lst, e_bin, e_cmp, e_isN, e_notN, e_and, e_or, e_not, e_ite, e_ix, e_slT, e_b1, e_b2, e_call, e_nil, e_cons, lft_some, un1_some, bi2_some, tB1_some, pk_t, pk_f, anK_t, anK_f, orK_t, orK_f, notK_some, csK_some, csM_some, mk1_some, clK_some, thS_nx, thS_rt, stG_some, nxT_some, rtG_some, bG_n, bG_t, bG_l, bsG_some, bs_nil, bs_cons, pr2_some, pr1_some, enR_rt, enR_nx, rd, List.map_cons, List.map_nil, List.length_cons, List.length_nil, Nat.reduceAdd, Nat.reduceSub, List.replicate, List.cons_append, List.nil_append, List.set_cons_zero, List.set_cons_succ, List.getD_cons_zero, List.getD_cons_succ, lp, z, m, s, u1, u2, z1, ce, pa, idm, hd2, ic, k1, k2, cB_ne_self (f_opt _).1, cB_ne_self (f_ns _), cB_ne_self (f_nI _).1, cB_eq_self f_kind]
end
end K69
set_option Elab.async false
set_option linter.all false
set_option maxRecDepth 100000
set_option maxHeartbeats 8000000
namespace K69
open PySem Ev
/-! ### drawing -/
def tpe (c : Nat) (cs : List Nat) : Tape := some [nI c, .list (cs.map nI)]
section
variable (cf : CF) (γ : En) (c : Nat) (cs : List Nat)
theorem t_stx (i : Nat) : evalE cf (.stx i 0) γ (tpe c cs) = some (nI c, tpe c cs) := by simp only [evalE]; rfl
theorem t_cells : tapeCells (tpe c cs) = some (cs.map nI) := rfl
theorem t_clen (i : Nat) : evalE cf (.clen i) γ (tpe c cs) = some (nI cs.length, tpe c cs) := by
  simp only [evalE, t_cells, Option.map_some, List.length_map]
  rfl
theorem t_cget (j i : Nat) : execS cf (.cget j i 1) γ (tpe c cs) = some (.nx (γ.set j (some .none)) (tpe c cs)) := by simp only [execS]; rfl
variable {cf γ c cs}
theorem t_cix {i a : Nat} {e : IE} (h : evalE cf e γ (tpe c cs) = some (nI a, tpe c cs)) (ha : a < cs.length) : evalE cf (.cix i e) γ (tpe c cs) = some (nI (cs.getD a 0), tpe c cs) := by
  simp only [evalE, h, Option.bind_some, t_cells]
  have e : opIx (.list (cs.map nI)) (nI a) = some (nI (cs.getD a 0)) := by
    simp only [opIx, nI]
    rw [L2.atI_nat (j := a) (v := nI cs[a]) (by rw [List.getElem?_map, List.getElem?_eq_getElem ha]; rfl)]
    rw [List.getD_eq_getElem?_getD, List.getElem?_eq_getElem ha]
    rfl
  rw [e]
  rfl
theorem t_sset {i v : Nat} {e : IE} (h : evalE cf e γ (tpe c cs) = some (nI v, tpe c cs)) : execS cf (.sset i 0 e) γ (tpe c cs) = some (.nx γ (tpe v cs)) := by
  simp only [execS, h, Option.bind_some]
  rfl
theorem t_cset {i a v : Nat} {e k : IE} (h : evalE cf e γ (tpe c cs) = some (nI v, tpe c cs)) (hk : evalE cf k γ (tpe c cs) = some (nI a, tpe c cs)) (ha : a < cs.length) : execS cf (.cset i k e) γ (tpe c cs) = some (.nx γ (tpe c (cs.set a v))) := by
  simp only [execS, h, Option.bind_some, hk, t_cells]
  have e1 : L2.ixN (cs.map nI).length (a : Int) = some a := by
    unfold L2.ixN
    rw [List.length_map]
    simp
    omega
  show (Option.bind (some [nI c, .list (cs.map nI)]) fun l => _) = _
  simp only [Option.bind_some, intOf, nI, List.length_map] at e1 ⊢
  rw [e1]
  simp only [Option.map_some, setCells, List.map_cons, List.map_nil, isListD, Option.isSome_none, Option.isSome_some, if_true, if_false, tpe, nI, List.map_set]
  rfl
end
theorem mod_n (a b : Nat) (h : 0 < b) : opBin .mod (nI a) (nI b) = some (nI (a % b)) := by
  simp only [opBin, opMod, nI]
  rw [if_pos (by omega)]
  push_cast
  rfl
theorem div_n (a b : Nat) (h : 0 < b) (h2 : b ≤ 1000) : opBin .fdiv (nI a) (nI b) = some (nI (a / b)) := by
  simp only [opBin, opDiv, nI]
  rw [if_pos ⟨by omega, by omega⟩]
  push_cast
  rfl
theorem mul_c (a b : Nat) (h : b < 18446744073709551616) : opBin .mul (nI a) (nI b) = some (nI (a * b)) := by
  simp only [opBin, opMul, opMulI, nI]
  rw [if_pos (.inr (by omega))]
  push_cast
  rfl
theorem k1 (a : Nat) : opBin .mul (nI a) (.int 48271) = some (nI (a * 48271)) := mul_c a 48271 (by decide)
theorem k2 (a : Nat) : opBin .mul (nI a) (.int 69621) = some (nI (a * 69621)) := mul_c a 69621 (by decide)
theorem k3 (a : Nat) : opBin .mul (nI a) (.int 16807) = some (nI (a * 16807)) := mul_c a 16807 (by decide)
theorem k4 (a : Nat) : opBin .mul (nI a) (.int 7919) = some (nI (a * 7919)) := mul_c a 7919 (by decide)
theorem k5 (a : Nat) : opBin .mod (nI a) (.int 2147483647) = some (nI (a % 2147483647)) := mod_n a 2147483647 (by decide)
theorem k6 (a : Nat) : opBin .mod (nI a) (.int 1000000007) = some (nI (a % 1000000007)) := mod_n a 1000000007 (by decide)
theorem k7 (a : Nat) : opBin .fdiv (nI a) (.int 7) = some (nI (a / 7)) := div_n a 7 (by decide) (by decide)
theorem k8 (a : Nat) : opBin .add (nI a) (.int 1) = some (nI (a + 1)) := add_n a 1
theorem kint (a : Nat) : opB1 .int (nI a) = some (nI a) := rfl
theorem kge (a : Nat) : cB .ge (nI a) (.int 1000000000000000000) = some (.bool (decide (1000000000000000000 ≤ a))) := by
  simp only [cB, opCmp, cInt, nI, Option.map_some]
  congr 2
  rw [decide_eq_decide]
  omega
def TP (τ : Tape) : Prop := ∃ c cs, τ = tpe c cs ∧ cs ≠ []
theorem take_ok (k most : Nat) (h0 : 0 < most) (h1 : most ≤ 1000) {τ : Tape} (h : TP τ) : ∃ v τ', callF P (k + 1) 13 [.none, nI most] τ = some (nI v, τ') ∧ v < most ∧ TP τ' := by
  obtain ⟨c, cs, rfl, hc⟩ := h
  have hl : 0 < cs.length := List.length_pos_iff.mpr hc
  have ha : c % cs.length < cs.length := Nat.mod_lt _ hl
  have g : ∀ x4 x5, evalE (callF P k) (.cix 2 (.v 3)) [some .none, some (nI most), some .none, some (nI (c % cs.length)), x4, x5] (tpe c cs) = some (nI (cs.getD (c % cs.length) 0), tpe c cs) := fun x4 x5 => t_cix (by simp only [runB_eq, x_nil, x_cons, x_set, x_own, x_par, x_ret, x_ite, x_frz, e_v, e_c, e_yes, e_tup, e_lst, e_bin, e_cmp, e_isN, e_notN, e_and, e_or, e_not, e_ite, e_ix, e_slT, e_b1, e_b2, e_call, e_nil, e_cons, lft_some, un1_some, bi2_some, tB1_some, pk_t, pk_f, anK_t, anK_f, orK_t, orK_f, notK_some, csK_some, csM_some, mk1_some, clK_some, thS_nx, thS_rt, stG_some, nxT_some, rtG_some, bG_n, bG_t, bG_l, bsG_some, bs_nil, bs_cons, pr2_some, pr1_some, enR_rt, enR_nx, rd, List.map_cons, List.map_nil, List.length_cons, List.length_nil, Nat.reduceAdd, Nat.reduceSub, List.replicate, List.cons_append, List.nil_append, List.set_cons_zero, List.set_cons_succ, List.getD_cons_zero, List.getD_cons_succ]) ha
  by_cases q : 1000000000000000000 ≤ cs.getD (c % cs.length) 0
  · have s := fun x5 => t_cset (cf := callF P k) (γ := [some .none, some (nI most), some .none, some (nI (c % cs.length)), some (nI (cs.getD (c % cs.length) 0)), x5]) (c := c) (cs := cs) (i := 2) (a := c % cs.length) (v := cs.getD (c % cs.length) 0 / most) (e := .bin .fdiv (.v 4) (.v 1)) (k := .v 3) (by simp only [runB_eq, x_nil, x_cons, x_set, x_own, x_par, x_ret, x_ite, x_frz, e_v, e_c, e_yes, e_tup, e_lst, e_bin, e_cmp, e_isN, e_notN, e_and, e_or, e_not, e_ite, e_ix, e_slT, e_b1, e_b2, e_call, e_nil, e_cons, lft_some, un1_some, bi2_some, tB1_some, pk_t, pk_f, anK_t, anK_f, orK_t, orK_f, notK_some, csK_some, csM_some, mk1_some, clK_some, thS_nx, thS_rt, stG_some, nxT_some, rtG_some, bG_n, bG_t, bG_l, bsG_some, bs_nil, bs_cons, pr2_some, pr1_some, enR_rt, enR_nx, rd, List.map_cons, List.map_nil, List.length_cons, List.length_nil, Nat.reduceAdd, Nat.reduceSub, List.replicate, List.cons_append, List.nil_append, List.set_cons_zero, List.set_cons_succ, List.getD_cons_zero, List.getD_cons_succ, div_n _ _ h0 h1]) (by simp only [runB_eq, x_nil, x_cons, x_set, x_own, x_par, x_ret, x_ite, x_frz, e_v, e_c, e_yes, e_tup, e_lst, e_bin, e_cmp, e_isN, e_notN, e_and, e_or, e_not, e_ite, e_ix, e_slT, e_b1, e_b2, e_call, e_nil, e_cons, lft_some, un1_some, bi2_some, tB1_some, pk_t, pk_f, anK_t, anK_f, orK_t, orK_f, notK_some, csK_some, csM_some, mk1_some, clK_some, thS_nx, thS_rt, stG_some, nxT_some, rtG_some, bG_n, bG_t, bG_l, bsG_some, bs_nil, bs_cons, pr2_some, pr1_some, enR_rt, enR_nx, rd, List.map_cons, List.map_nil, List.length_cons, List.length_nil, Nat.reduceAdd, Nat.reduceSub, List.replicate, List.cons_append, List.nil_append, List.set_cons_zero, List.set_cons_succ, List.getD_cons_zero, List.getD_cons_succ]) ha
    refine ⟨cs.getD (c % cs.length) 0 % most, tpe c (cs.set (c % cs.length) (cs.getD (c % cs.length) 0 / most)), ?_, Nat.mod_lt _ h0, _, _, rfl, fun z => hc (List.length_eq_zero_iff.mp (by rw [← List.length_set (as := cs), z]; rfl))⟩
    simp only [c13, ir__law_take, runB_eq, x_nil, x_cons, x_set, x_own, x_par, x_ret, x_ite, x_frz, e_v, e_c, e_yes, e_tup, e_lst, e_bin, e_cmp, e_isN, e_notN, e_and, e_or, e_not, e_ite, e_ix, e_slT, e_b1, e_b2, e_call, e_nil, e_cons, lft_some, un1_some, bi2_some, tB1_some, pk_t, pk_f, anK_t, anK_f, orK_t, orK_f, notK_some, csK_some, csM_some, mk1_some, clK_some, thS_nx, thS_rt, stG_some, nxT_some, rtG_some, bG_n, bG_t, bG_l, bsG_some, bs_nil, bs_cons, pr2_some, pr1_some, enR_rt, enR_nx, rd, List.map_cons, List.map_nil, List.length_cons, List.length_nil, Nat.reduceAdd, Nat.reduceSub, List.replicate, List.cons_append, List.nil_append, List.set_cons_zero, List.set_cons_succ, List.getD_cons_zero, List.getD_cons_succ, t_cget, t_stx, t_clen, mod_n _ _ hl, g, kge, decide_eq_true q, s, mod_n _ _ h0]
  · have q2 : decide (1000000000000000000 ≤ cs.getD (c % cs.length) 0) = false := decide_eq_false q
    have s := fun x5 => t_sset (cf := callF P k) (γ := [some .none, some (nI most), some .none, some (nI (c % cs.length)), some (nI (cs.getD (c % cs.length) 0)), x5]) (c := c) (cs := cs) (i := 0) (v := c + 1) (e := .bin .add (.stx 0 0) (.c (.int 1))) (by simp only [runB_eq, x_nil, x_cons, x_set, x_own, x_par, x_ret, x_ite, x_frz, e_v, e_c, e_yes, e_tup, e_lst, e_bin, e_cmp, e_isN, e_notN, e_and, e_or, e_not, e_ite, e_ix, e_slT, e_b1, e_b2, e_call, e_nil, e_cons, lft_some, un1_some, bi2_some, tB1_some, pk_t, pk_f, anK_t, anK_f, orK_t, orK_f, notK_some, csK_some, csM_some, mk1_some, clK_some, thS_nx, thS_rt, stG_some, nxT_some, rtG_some, bG_n, bG_t, bG_l, bsG_some, bs_nil, bs_cons, pr2_some, pr1_some, enR_rt, enR_nx, rd, List.map_cons, List.map_nil, List.length_cons, List.length_nil, Nat.reduceAdd, Nat.reduceSub, List.replicate, List.cons_append, List.nil_append, List.set_cons_zero, List.set_cons_succ, List.getD_cons_zero, List.getD_cons_succ, t_stx, k8])
    refine ⟨(((cs.getD (c % cs.length) 0 * 48271 + (c + 1) * 69621) % 2147483647 * 16807 + (c + 1) * 7919) % 1000000007 / 7) % most, tpe (c + 1) cs, ?_, Nat.mod_lt _ h0, _, _, rfl, hc⟩
    · simp only [c13, ir__law_take, runB_eq, x_nil, x_cons, x_set, x_own, x_par, x_ret, x_ite, x_frz, e_v, e_c, e_yes, e_tup, e_lst, e_bin, e_cmp, e_isN, e_notN, e_and, e_or, e_not, e_ite, e_ix, e_slT, e_b1, e_b2, e_call, e_nil, e_cons, lft_some, un1_some, bi2_some, tB1_some, pk_t, pk_f, anK_t, anK_f, orK_t, orK_f, notK_some, csK_some, csM_some, mk1_some, clK_some, thS_nx, thS_rt, stG_some, nxT_some, rtG_some, bG_n, bG_t, bG_l, bsG_some, bs_nil, bs_cons, pr2_some, pr1_some, enR_rt, enR_nx, rd, List.map_cons, List.map_nil, List.length_cons, List.length_nil, Nat.reduceAdd, Nat.reduceSub, List.replicate, List.cons_append, List.nil_append, List.set_cons_zero, List.set_cons_succ, List.getD_cons_zero, List.getD_cons_succ, t_cget, t_stx, t_clen, mod_n _ _ hl, g, kge, q2, s, k1, k2, k3, k4, k5, k6, k7, kint, add_n, mod_n _ _ h0]
end K69
set_option Elab.async false
set_option linter.all false
set_option maxRecDepth 100000
set_option maxHeartbeats 8000000
namespace K69
open PySem Ev
def symL : List Nat := [0, 1, 2, 3, 4, 5, 1, 0, 3, 2, 5, 4, 2, 4, 0, 5, 1, 3, 3, 5, 1, 4, 0, 2, 4, 2, 5, 0, 3, 1, 5, 3, 4, 1, 2, 0]
theorem sym_ok (k : Nat) (τ : Tape) : callF P (k + 1) 15 [] τ = some (tT symL, τ) := by
  rw [c15]
  kernel_rfl
theorem sym_val : Val 6 symL := ⟨by decide, by decide, by decide, by decide⟩
end K69
set_option Elab.async false
set_option linter.all false
set_option maxRecDepth 100000
set_option maxHeartbeats 8000000
namespace K69
open PySem Ev
theorem for_rel {cf : CF} {γ : En} {τ : Tape} {i n : Nat} {a : IE} {b : List IS} {ks : List Nat} {G : List Ty} (I : List Nat → En → Tape → Prop) (hn : n ≤ 1000000) (ha : evalE cf a γ τ = some (nI n, τ)) (h0 : I [] γ τ)
    (h : ∀ pre x γ τ, x ∈ List.range n → I pre γ τ → ∃ γ' τ', execSs cf b (γ.set i (some (nI x))) τ = some (.nx γ' τ') ∧ I (pre ++ [x]) (kill γ' ks) τ') :
    ∃ γ' τ', execS cf (.for (.n i) .r1 [a] b ks G) γ τ = some (.nx γ' τ') ∧ I (List.range n) γ' τ' := by
  simp only [execS, evalEs, ha, Option.bind_some, Option.map_some, range_n n hn]
  have q := forL_rel (f := fun x g t => (bindT (.n i) x g).bind fun g' => execSs cf b g' t) (ks := ks) (enc := nI) I (xs := List.range n) (pre := []) h0 (fun p x g t hx hi => by
    obtain ⟨γ', τ', e1, e2⟩ := h p x g t hx hi
    exact ⟨γ', τ', by simpa only [bindT, Option.bind_some] using e1, e2⟩)
  simpa only [List.nil_append] using q
theorem sub_n (a b : Nat) (h : b ≤ a) : opBin .sub (nI a) (nI b) = some (nI (a - b)) := by
  simp only [opBin, opSub, nI]
  rw [Int.ofNat_sub h]
theorem min_n (a b : Nat) : opB2 .min (nI a) (nI b) = some (nI (if b < a then b else a)) := by
  simp only [opB2, i2, nI]
  by_cases h : b < a
  · rw [if_pos h, if_pos (by omega)]
  · rw [if_neg h, if_neg (by omega)]
theorem max_n (a b : Nat) : opB2 .max (nI a) (nI b) = some (nI (if a < b then b else a)) := by
  simp only [opB2, i2, nI]
  by_cases h : a < b
  · rw [if_pos h, if_pos (by omega)]
  · rw [if_neg h, if_neg (by omega)]
theorem row_ix {n f v0 v1 v2 v3 v4 v5 v6 v7 : Nat} (hf : f < 8) (h0 : v0 < n) (h1 : v1 < n) (h2 : v2 < n) (h3 : v3 < n) (h4 : v4 < n) (h5 : v5 < n) (h6 : v6 < n) (h7 : v7 < n) : ∃ v, v < n ∧ opIx (.list [nI v0, nI v1, nI v2, nI v3, nI v4, nI v5, nI v6, nI v7]) (nI f) = some (nI v) := by
  match f, hf with
  | 0, _ => exact ⟨v0, h0, L2.atI_nat (j := 0) rfl⟩
  | 1, _ => exact ⟨v1, h1, L2.atI_nat (j := 1) rfl⟩
  | 2, _ => exact ⟨v2, h2, L2.atI_nat (j := 2) rfl⟩
  | 3, _ => exact ⟨v3, h3, L2.atI_nat (j := 3) rfl⟩
  | 4, _ => exact ⟨v4, h4, L2.atI_nat (j := 4) rfl⟩
  | 5, _ => exact ⟨v5, h5, L2.atI_nat (j := 5) rfl⟩
  | 6, _ => exact ⟨v6, h6, L2.atI_nat (j := 6) rfl⟩
  | 7, _ => exact ⟨v7, h7, L2.atI_nat (j := 7) rfl⟩
def dBody : List IS := [.set (.n 6) (.bin .add (.v 4) (.v 5)), .set (.n 7) (.call 13 [(.v 0), (.v 2)]), .set (.n 8) (.lst [(.v 7), (.bin .sub (.v 6) (.bin .mul (.bin .fdiv (.v 6) (.v 2)) (.v 2))), (.b2 .min (.v 4) (.v 5)), (.b2 .max (.v 4) (.v 5)), (.v 4), (.v 7), (.bin .sub (.bin .sub (.bin .add (.bin .mul (.v 2) (.v 2)) (.v 4)) (.v 5)) (.bin .mul (.bin .fdiv (.bin .sub (.bin .add (.bin .mul (.v 2) (.v 2)) (.v 4)) (.v 5)) (.v 2)) (.v 2))), (.v 7)]), .app 3 (.ix (.v 8) (.v 1))]
theorem body_step (k : Nat) {n f a b : Nat} {L : List Nat} {τ : Tape} (hn : 0 < n) (hn6 : n ≤ 6) (hf : f < 8) (ha : a < n) (hb : b < n) (hL : L.length ≤ 1000) (ht : TP τ) :
    ∃ v τ' g6 g7 g8, v < n ∧ TP τ' ∧ execSs (callF P (k + 1)) dBody [some .none, some (nI f), some (nI n), some (.list (L.map nI)), some (nI a), some (nI b), none, none, none] τ = some (.nx [some .none, some (nI f), some (nI n), some (.list ((L ++ [v]).map nI)), some (nI a), some (nI b), g6, g7, g8] τ') := by
  obtain ⟨d, τ', e, hd, ht'⟩ := take_ok k n hn (by omega) ht
  have hm : ∀ t : Nat, t / n * n ≤ t := fun t => Nat.div_mul_le_self t n
  have hs : ∀ t : Nat, t - t / n * n = t % n := fun t => by have := Nat.div_add_mod t n; rw [Nat.mul_comm] at this; omega
  have hbl : b ≤ n * n + a := by have : n ≤ n * n := Nat.le_mul_of_pos_left n hn; omega
  obtain ⟨v, hv, ev⟩ := row_ix (n := n) (f := f) (v0 := d) (v1 := (a + b) - (a + b) / n * n) (v2 := if b < a then b else a) (v3 := if a < b then b else a) (v4 := a) (v5 := d) (v6 := (n * n + a - b) - (n * n + a - b) / n * n) (v7 := d) hf hd (by rw [hs]; exact Nat.mod_lt _ hn) (by split <;> assumption) (by split <;> assumption) ha hd (by rw [hs]; exact Nat.mod_lt _ hn) hd
  have ap := fun g6 => x_app (cf := callF P (k + 1)) (γ := [some .none, some (nI f), some (nI n), some (.list (L.map nI)), some (nI a), some (nI b), g6, some (nI d), some (.list [nI d, nI ((a + b) - (a + b) / n * n), nI (if b < a then b else a), nI (if a < b then b else a), nI a, nI d, nI ((n * n + a - b) - (n * n + a - b) / n * n), nI d])]) (τ := τ') (τ' := τ') (i := 3) (e := .ix (.v 8) (.v 1)) (y := nI v) (xs := L.map nI) (by simp only [runB_eq, x_nil, x_cons, x_set, x_own, x_par, x_ret, x_ite, x_frz, e_v, e_c, e_yes, e_tup, e_lst, e_bin, e_cmp, e_isN, e_notN, e_and, e_or, e_not, e_ite, e_ix, e_slT, e_b1, e_b2, e_call, e_nil, e_cons, lft_some, un1_some, bi2_some, tB1_some, pk_t, pk_f, anK_t, anK_f, orK_t, orK_f, notK_some, csK_some, csM_some, mk1_some, clK_some, thS_nx, thS_rt, stG_some, nxT_some, rtG_some, bG_n, bG_t, bG_l, bsG_some, bs_nil, bs_cons, pr2_some, pr1_some, enR_rt, enR_nx, rd, List.map_cons, List.map_nil, List.length_cons, List.length_nil, Nat.reduceAdd, Nat.reduceSub, List.replicate, List.cons_append, List.nil_append, List.set_cons_zero, List.set_cons_succ, List.getD_cons_zero, List.getD_cons_succ, ev]) rfl (by rw [List.length_map]; exact Nat.lt_of_le_of_lt hL (by decide))
  refine ⟨v, τ', some (nI (a + b)), some (nI d), some (.list [nI d, nI ((a + b) - (a + b) / n * n), nI (if b < a then b else a), nI (if a < b then b else a), nI a, nI d, nI ((n * n + a - b) - (n * n + a - b) / n * n), nI d]), hv, ht', ?_⟩
  have em : (L ++ [v]).map nI = L.map nI ++ [nI v] := by rw [List.map_append]; rfl
  simp only [dBody, runB_eq, x_nil, x_cons, x_set, x_own, x_par, x_ret, x_ite, x_frz, e_v, e_c, e_yes, e_tup, e_lst, e_bin, e_cmp, e_isN, e_notN, e_and, e_or, e_not, e_ite, e_ix, e_slT, e_b1, e_b2, e_call, e_nil, e_cons, lft_some, un1_some, bi2_some, tB1_some, pk_t, pk_f, anK_t, anK_f, orK_t, orK_f, notK_some, csK_some, csM_some, mk1_some, clK_some, thS_nx, thS_rt, stG_some, nxT_some, rtG_some, bG_n, bG_t, bG_l, bsG_some, bs_nil, bs_cons, pr2_some, pr1_some, enR_rt, enR_nx, rd, List.map_cons, List.map_nil, List.length_cons, List.length_nil, Nat.reduceAdd, Nat.reduceSub, List.replicate, List.cons_append, List.nil_append, List.set_cons_zero, List.set_cons_succ, List.getD_cons_zero, List.getD_cons_succ, add_n, e, mul_n _ n (by omega : n ≤ 1000), div_n _ n hn (by omega : n ≤ 1000), sub_n _ _ (hm _), sub_n _ _ hbl, min_n, max_n, ap, em]
end K69
set_option Elab.async false
set_option linter.all false
set_option maxRecDepth 100000
set_option maxHeartbeats 8000000
namespace K69
open PySem Ev
theorem forL_rel2 {f : D → En → Tape → Option Out} {ks : List Nat} (T : List Nat) (I : List Nat → En → Tape → Prop) (h : ∀ pre x q γ τ, T = pre ++ x :: q → I pre γ τ → ∃ γ' τ', f (nI x) γ τ = some (.nx γ' τ') ∧ I (pre ++ [x]) (kill γ' ks) τ') : ∀ {xs pre : List Nat} {γ : En} {τ : Tape}, T = pre ++ xs → I pre γ τ →
    ∃ γ' τ', forL f ks (xs.map nI) γ τ = some (.nx γ' τ') ∧ I T γ' τ'
  | [], pre, γ, τ, e, hb => ⟨γ, τ, rfl, by rw [e, List.append_nil]; exact hb⟩
  | x :: xs, pre, γ, τ, e, hb => by
    obtain ⟨γ1, τ1, e1, h1⟩ := h pre x xs γ τ e hb
    obtain ⟨γ2, τ2, e2, h2⟩ := forL_rel2 T I h (xs := xs) (pre := pre ++ [x]) (by rw [e, List.append_assoc]; rfl) h1
    refine ⟨γ2, τ2, ?_, h2⟩
    rw [List.map_cons, forL, e1, Option.bind_some]
    exact e2
theorem for_rel2 {cf : CF} {γ : En} {τ : Tape} {i n : Nat} {a : IE} {b : List IS} {ks : List Nat} {G : List Ty} (I : List Nat → En → Tape → Prop) (hn : n ≤ 1000000) (ha : evalE cf a γ τ = some (nI n, τ)) (h0 : I [] γ τ)
    (h : ∀ pre x γ τ, x < n → pre.length < n → I pre γ τ → ∃ γ' τ', execSs cf b (γ.set i (some (nI x))) τ = some (.nx γ' τ') ∧ I (pre ++ [x]) (kill γ' ks) τ') :
    ∃ γ' τ', execS cf (.for (.n i) .r1 [a] b ks G) γ τ = some (.nx γ' τ') ∧ I (List.range n) γ' τ' := by
  simp only [execS, evalEs, ha, Option.bind_some, Option.map_some, range_n n hn]
  exact forL_rel2 (f := fun x g t => (bindT (.n i) x g).bind fun g' => execSs cf b g' t) (ks := ks) (List.range n) I (fun p x q g t e hi => by
    have hp : p.length < n := by
      have := congrArg List.length e
      rw [List.length_range, List.length_append, List.length_cons] at this
      omega
    obtain ⟨γ', τ', e1, e2⟩ := h p x g t (List.mem_range.mp (by rw [e]; simp)) hp hi
    exact ⟨γ', τ', by simpa only [bindT, Option.bind_some] using e1, e2⟩) (pre := []) rfl h0
theorem inner_loop (k : Nat) {n f a : Nat} {L : List Nat} {τ : Tape} (hn : 0 < n) (hn6 : n ≤ 6) (hf : f < 8) (ha : a < n) (hL : L.length ≤ 100) (hv : ∀ x ∈ L, x < n) (ht : TP τ) :
    ∃ (L' : List Nat) (τ' : Tape), L'.length = L.length + n ∧ (∀ x ∈ L', x < n) ∧ TP τ' ∧ execS (callF P (k + 1)) (.for (.n 5) .r1 [(.v 2)] dBody [5, 6, 7, 8] [.st, .p, .p, .o, .p, .u, .u, .u, .u]) [some .none, some (nI f), some (nI n), some (.list (L.map nI)), some (nI a), none, none, none, none] τ
      = some (.nx [some .none, some (nI f), some (nI n), some (.list (L'.map nI)), some (nI a), none, none, none, none] τ') := by
  have q := for_rel2 (cf := callF P (k + 1)) (γ := [some .none, some (nI f), some (nI n), some (.list (L.map nI)), some (nI a), none, none, none, none]) (τ := τ) (i := 5) (n := n) (a := .v 2) (b := dBody) (ks := [5, 6, 7, 8]) (G := [.st, .p, .p, .o, .p, .u, .u, .u, .u])
    (fun pre γ τ => ∃ L' : List Nat, γ = [some .none, some (nI f), some (nI n), some (.list (L'.map nI)), some (nI a), none, none, none, none] ∧ L'.length = L.length + pre.length ∧ (∀ x ∈ L', x < n) ∧ TP τ) (by omega) (by simp only [runB_eq, x_nil, x_cons, x_set, x_own, x_par, x_ret, x_ite, x_frz, e_v, e_c, e_yes, e_tup, e_lst, e_bin, e_cmp, e_isN, e_notN, e_and, e_or, e_not, e_ite, e_ix, e_slT, e_b1, e_b2, e_call, e_nil, e_cons, lft_some, un1_some, bi2_some, tB1_some, pk_t, pk_f, anK_t, anK_f, orK_t, orK_f, notK_some, csK_some, csM_some, mk1_some, clK_some, thS_nx, thS_rt, stG_some, nxT_some, rtG_some, bG_n, bG_t, bG_l, bsG_some, bs_nil, bs_cons, pr2_some, pr1_some, enR_rt, enR_nx, rd, List.map_cons, List.map_nil, List.length_cons, List.length_nil, Nat.reduceAdd, Nat.reduceSub, List.replicate, List.cons_append, List.nil_append, List.set_cons_zero, List.set_cons_succ, List.getD_cons_zero, List.getD_cons_succ]) ⟨L, rfl, rfl, hv, ht⟩ (fun pre x γ τ hx hp hi => by
      obtain ⟨L', rfl, h1, h2, h3⟩ := hi
      obtain ⟨v, τ', g6, g7, g8, b1, b2, b3⟩ := body_step k (b := x) (L := L') hn hn6 hf ha hx (by omega) h3
      refine ⟨_, τ', b3, L' ++ [v], rfl, by rw [List.length_append, List.length_append, h1]; simp; omega, fun y hy => ?_, b2⟩
      rcases List.mem_append.mp hy with hy | hy
      · exact h2 y hy
      · rw [List.mem_singleton] at hy; subst hy; exact b1)
  obtain ⟨γ', τ', e, L', rfl, h1, h2, h3⟩ := q
  exact ⟨L', τ', by rw [h1, List.length_range], h2, h3, e⟩
theorem outer_loop (k : Nat) {n f : Nat} {τ : Tape} (hn : 0 < n) (hn6 : n ≤ 6) (hf : f < 8) (ht : TP τ) :
    ∃ (L' : List Nat) (τ' : Tape), L'.length = n * n ∧ (∀ x ∈ L', x < n) ∧ TP τ' ∧ execS (callF P (k + 1)) (.for (.n 4) .r1 [(.v 2)] [.for (.n 5) .r1 [(.v 2)] dBody [5, 6, 7, 8] [.st, .p, .p, .o, .p, .u, .u, .u, .u]] [4, 5, 6, 7, 8] [.st, .p, .p, .o, .u, .u, .u, .u, .u]) [some .none, some (nI f), some (nI n), some (.list []), none, none, none, none, none] τ
      = some (.nx [some .none, some (nI f), some (nI n), some (.list (L'.map nI)), none, none, none, none, none] τ') := by
  have q := for_rel2 (cf := callF P (k + 1)) (γ := [some .none, some (nI f), some (nI n), some (.list []), none, none, none, none, none]) (τ := τ) (i := 4) (n := n) (a := .v 2) (b := [.for (.n 5) .r1 [(.v 2)] dBody [5, 6, 7, 8] [.st, .p, .p, .o, .p, .u, .u, .u, .u]]) (ks := [4, 5, 6, 7, 8]) (G := [.st, .p, .p, .o, .u, .u, .u, .u, .u])
    (fun pre γ τ => ∃ L' : List Nat, γ = [some .none, some (nI f), some (nI n), some (.list (L'.map nI)), none, none, none, none, none] ∧ L'.length = pre.length * n ∧ (∀ x ∈ L', x < n) ∧ TP τ) (by omega) (by simp only [runB_eq, x_nil, x_cons, x_set, x_own, x_par, x_ret, x_ite, x_frz, e_v, e_c, e_yes, e_tup, e_lst, e_bin, e_cmp, e_isN, e_notN, e_and, e_or, e_not, e_ite, e_ix, e_slT, e_b1, e_b2, e_call, e_nil, e_cons, lft_some, un1_some, bi2_some, tB1_some, pk_t, pk_f, anK_t, anK_f, orK_t, orK_f, notK_some, csK_some, csM_some, mk1_some, clK_some, thS_nx, thS_rt, stG_some, nxT_some, rtG_some, bG_n, bG_t, bG_l, bsG_some, bs_nil, bs_cons, pr2_some, pr1_some, enR_rt, enR_nx, rd, List.map_cons, List.map_nil, List.length_cons, List.length_nil, Nat.reduceAdd, Nat.reduceSub, List.replicate, List.cons_append, List.nil_append, List.set_cons_zero, List.set_cons_succ, List.getD_cons_zero, List.getD_cons_succ]) ⟨[], rfl, by simp, fun x hx => (List.not_mem_nil hx).elim, ht⟩ (fun pre x γ τ hx hp hi => by
      obtain ⟨L', rfl, h1, h2, h3⟩ := hi
      have hm : pre.length * n ≤ 6 * 6 := Nat.mul_le_mul (by omega) hn6
      obtain ⟨L2, τ', b1, b2, b3, b4⟩ := inner_loop k (a := x) (L := L') hn hn6 hf hx (by omega) h2 h3
      refine ⟨[some .none, some (nI f), some (nI n), some (.list (L2.map nI)), some (nI x), none, none, none, none], τ', by simp only [x_cons, x_nil, List.set_cons_succ, List.set_cons_zero, b4, thS_nx], L2, rfl, by rw [b1, h1, List.length_append, Nat.add_mul]; simp, b2, b3⟩)
  obtain ⟨γ', τ', e, L', rfl, h1, h2, h3⟩ := q
  exact ⟨L', τ', by rw [h1, List.length_range], h2, h3, e⟩
end K69
set_option Elab.async false
set_option linter.all false
set_option maxRecDepth 100000
set_option maxHeartbeats 8000000
namespace K69
open PySem Ev
theorem x_setix {cf : CF} {γ : En} {τ τ1 τ2 : Tape} {i a : Nat} {k e : IE} {xs : List D} {y : D} (h1 : evalE cf e γ τ = some (y, τ1)) (h2 : evalE cf k γ τ1 = some (nI a, τ2)) (h3 : rd γ i = some (.list xs)) (ha : a < xs.length) : execS cf (.setix i k e) γ τ = some (.nx (γ.set i (some (.list (xs.set a y)))) τ2) := by
  have e1 : L2.ixN xs.length (a : Int) = some a := by
    unfold L2.ixN
    simp
    omega
  simp only [execS, h1, Option.bind_some, h2, h3, updIx, nI, e1, Option.map_some]
theorem draw_ok (k : Nat) {τ : Tape} (ht : TP τ) : ∃ n tb τ', callF P (k + 2) 14 [.none] τ = some (.tuple [tT tb, nI n], τ') ∧ Val n tb := by
  obtain ⟨f, τ1, e1, hf, ht1⟩ := take_ok k 8 (by decide) (by decide) ht
  obtain ⟨s, τ2, e2, hs, ht2⟩ := take_ok k 5 (by decide) (by decide) ht1
  have e1' : callF P (k + 1) 13 [.none, .int 8] τ = some (nI f, τ1) := e1
  have e2' : callF P (k + 1) 13 [.none, .int 5] τ1 = some (nI s, τ2) := e2
  have ad : opBin .add (.int 1) (nI s) = some (nI (1 + s)) := add_n 1 s
  by_cases q : f = 0
  · subst q
    refine ⟨6, symL, τ2, ?_, sym_val⟩
    simp only [c14, ir__law_draw_table, runB_eq, x_nil, x_cons, x_set, x_own, x_par, x_ret, x_ite, x_frz, e_v, e_c, e_yes, e_tup, e_lst, e_bin, e_cmp, e_isN, e_notN, e_and, e_or, e_not, e_ite, e_ix, e_slT, e_b1, e_b2, e_call, e_nil, e_cons, lft_some, un1_some, bi2_some, tB1_some, pk_t, pk_f, anK_t, anK_f, orK_t, orK_f, notK_some, csK_some, csM_some, mk1_some, clK_some, thS_nx, thS_rt, stG_some, nxT_some, rtG_some, bG_n, bG_t, bG_l, bsG_some, bs_nil, bs_cons, pr2_some, pr1_some, enR_rt, enR_nx, rd, List.map_cons, List.map_nil, List.length_cons, List.length_nil, Nat.reduceAdd, Nat.reduceSub, List.replicate, List.cons_append, List.nil_append, List.set_cons_zero, List.set_cons_succ, List.getD_cons_zero, List.getD_cons_succ, e1', e2', ad, cB_eq_0, decide_true, sym_ok]
    rfl
  · have q2 : decide (f = 0) = false := decide_eq_false q
    obtain ⟨L, τ3, h1, h2, h3, e3⟩ := outer_loop k (n := 1 + s) (f := f) (τ := τ2) (by omega) (by omega) hf ht2
    unfold dBody at e3
    obtain ⟨r, τ4, e4, hr, ht4⟩ := take_ok k 4 (by decide) (by decide) h3
    have e4' : callF P (k + 1) 13 [.none, .int 4] τ3 = some (nI r, τ4) := e4
    have bt : ∀ xs : List D, opB1 .tuple (.list xs) = some (.tuple xs) := fun _ => rfl
    by_cases p : r = 0
    · subst p
      obtain ⟨v, τ5, e5, hv, ht5⟩ := take_ok k (1 + s) (by omega) (by omega) ht4
      have hpos : 0 < L.length := by rw [h1]; exact Nat.mul_pos (by omega) (by omega)
      have hle : L.length ≤ 1000 := by rw [h1]; exact Nat.le_trans (Nat.mul_le_mul (show 1 + s ≤ 6 by omega) (show 1 + s ≤ 6 by omega)) (by decide)
      obtain ⟨z, τ6, e6, hz, ht6⟩ := take_ok k L.length hpos hle ht5
      have sx := x_setix (cf := callF P (k + 1)) (γ := [some .none, some (nI f), some (nI (1 + s)), some (.list (L.map nI)), none, none, none, none, none]) (τ := τ4) (τ1 := τ5) (τ2 := τ6) (i := 3) (a := z) (k := .call 13 [(.v 0), (.b1 .len (.v 3))]) (e := .call 13 [(.v 0), (.v 2)]) (xs := L.map nI) (y := nI v) (by simp only [runB_eq, x_nil, x_cons, x_set, x_own, x_par, x_ret, x_ite, x_frz, e_v, e_c, e_yes, e_tup, e_lst, e_bin, e_cmp, e_isN, e_notN, e_and, e_or, e_not, e_ite, e_ix, e_slT, e_b1, e_b2, e_call, e_nil, e_cons, lft_some, un1_some, bi2_some, tB1_some, pk_t, pk_f, anK_t, anK_f, orK_t, orK_f, notK_some, csK_some, csM_some, mk1_some, clK_some, thS_nx, thS_rt, stG_some, nxT_some, rtG_some, bG_n, bG_t, bG_l, bsG_some, bs_nil, bs_cons, pr2_some, pr1_some, enR_rt, enR_nx, rd, List.map_cons, List.map_nil, List.length_cons, List.length_nil, Nat.reduceAdd, Nat.reduceSub, List.replicate, List.cons_append, List.nil_append, List.set_cons_zero, List.set_cons_succ, List.getD_cons_zero, List.getD_cons_succ, e5]) (by simp only [runB_eq, x_nil, x_cons, x_set, x_own, x_par, x_ret, x_ite, x_frz, e_v, e_c, e_yes, e_tup, e_lst, e_bin, e_cmp, e_isN, e_notN, e_and, e_or, e_not, e_ite, e_ix, e_slT, e_b1, e_b2, e_call, e_nil, e_cons, lft_some, un1_some, bi2_some, tB1_some, pk_t, pk_f, anK_t, anK_f, orK_t, orK_f, notK_some, csK_some, csM_some, mk1_some, clK_some, thS_nx, thS_rt, stG_some, nxT_some, rtG_some, bG_n, bG_t, bG_l, bsG_some, bs_nil, bs_cons, pr2_some, pr1_some, enR_rt, enR_nx, rd, List.map_cons, List.map_nil, List.length_cons, List.length_nil, Nat.reduceAdd, Nat.reduceSub, List.replicate, List.cons_append, List.nil_append, List.set_cons_zero, List.set_cons_succ, List.getD_cons_zero, List.getD_cons_succ, len_l, List.length_map, e6]) rfl (by rw [List.length_map]; exact hz)
      refine ⟨1 + s, L.set z v, τ6, ?_, ⟨by omega, by omega, by rw [List.length_set, h1], fun x hx => ?_⟩⟩
      · have em : (L.set z v).map nI = (L.map nI).set z (nI v) := List.map_set
        simp only [c14, ir__law_draw_table, runB_eq, x_nil, x_cons, x_set, x_own, x_par, x_ret, x_ite, x_frz, e_v, e_c, e_yes, e_tup, e_lst, e_bin, e_cmp, e_isN, e_notN, e_and, e_or, e_not, e_ite, e_ix, e_slT, e_b1, e_b2, e_call, e_nil, e_cons, lft_some, un1_some, bi2_some, tB1_some, pk_t, pk_f, anK_t, anK_f, orK_t, orK_f, notK_some, csK_some, csM_some, mk1_some, clK_some, thS_nx, thS_rt, stG_some, nxT_some, rtG_some, bG_n, bG_t, bG_l, bsG_some, bs_nil, bs_cons, pr2_some, pr1_some, enR_rt, enR_nx, rd, List.map_cons, List.map_nil, List.length_cons, List.length_nil, Nat.reduceAdd, Nat.reduceSub, List.replicate, List.cons_append, List.nil_append, List.set_cons_zero, List.set_cons_succ, List.getD_cons_zero, List.getD_cons_succ, e1', e2', ad, cB_eq_0, q2, e3, e4', decide_true, sx, bt, tT, em]
      · rcases List.mem_or_eq_of_mem_set hx with hx | hx
        · exact h2 x hx
        · subst hx; exact hv
    · have p2 : decide (r = 0) = false := decide_eq_false p
      refine ⟨1 + s, L, τ4, ?_, ⟨by omega, by omega, h1, h2⟩⟩
      simp only [c14, ir__law_draw_table, runB_eq, x_nil, x_cons, x_set, x_own, x_par, x_ret, x_ite, x_frz, e_v, e_c, e_yes, e_tup, e_lst, e_bin, e_cmp, e_isN, e_notN, e_and, e_or, e_not, e_ite, e_ix, e_slT, e_b1, e_b2, e_call, e_nil, e_cons, lft_some, un1_some, bi2_some, tB1_some, pk_t, pk_f, anK_t, anK_f, orK_t, orK_f, notK_some, csK_some, csM_some, mk1_some, clK_some, thS_nx, thS_rt, stG_some, nxT_some, rtG_some, bG_n, bG_t, bG_l, bsG_some, bs_nil, bs_cons, pr2_some, pr1_some, enR_rt, enR_nx, rd, List.map_cons, List.map_nil, List.length_cons, List.length_nil, Nat.reduceAdd, Nat.reduceSub, List.replicate, List.cons_append, List.nil_append, List.set_cons_zero, List.set_cons_succ, List.getD_cons_zero, List.getD_cons_succ, e1', e2', ad, cB_eq_0, q2, e3, e4', p2, bt, tT]
theorem tape0_ok (ns : List Int) : TP (some (tape0 ns)) := by
  by_cases h : ns.length = 0
  · refine ⟨0, [0], ?_, by simp⟩
    unfold tape0 cellsOf
    rw [if_pos h]
    rfl
  · refine ⟨0, ns.map Int.natAbs, ?_, by simpa using h⟩
    unfold tape0 cellsOf tpe
    rw [if_neg h]
    congr 3
    rw [List.map_map, List.map_map]
    congr 1
    apply List.map_congr_left
    intro i _
    simp only [Function.comp, nI, absI]
    congr 1
    split <;> omega
def depth : Nat := 6
theorem plain : ∀ ns : List Int, ns.length ≤ 63 → ∃ τ', execSs (callF P (depth + 1)) ir_law (gaL N_law) (some (tape0 ns)) = some (.rt (.bool true) τ') := by
  intro ns _
  obtain ⟨n, tb, τ', e, V⟩ := draw_ok 5 (tape0_ok ns)
  refine ⟨τ', ?_⟩
  have r := rest_ok 2 V τ'
  have eg : gaL N_law = [none, some .none, none, none, none, none, none, none, none, none] := rfl
  have el : ir_law = .set (.t [(.n 2), (.n 3)]) (.call 14 [(.v 1)]) :: ir_law.tail := rfl
  rw [eg, el, x_cons]
  have s1 : execS (callF P (depth + 1)) (.set (.t [(.n 2), (.n 3)]) (.call 14 [(.v 1)])) [none, some .none, none, none, none, none, none, none, none, none] (some (tape0 ns)) = some (.nx [none, some .none, some (tT tb), some (nI n), none, none, none, none, none, none] τ') := by
    have e' : callF P (depth + 1) 14 [.none] (some (tape0 ns)) = some (.tuple [tT tb, nI n], τ') := e
    simp only [runB_eq, x_nil, x_cons, x_set, x_own, x_par, x_ret, x_ite, x_frz, e_v, e_c, e_yes, e_tup, e_lst, e_bin, e_cmp, e_isN, e_notN, e_and, e_or, e_not, e_ite, e_ix, e_slT, e_b1, e_b2, e_call, e_nil, e_cons, lft_some, un1_some, bi2_some, tB1_some, pk_t, pk_f, anK_t, anK_f, orK_t, orK_f, notK_some, csK_some, csM_some, mk1_some, clK_some, thS_nx, thS_rt, stG_some, nxT_some, rtG_some, bG_n, bG_t, bG_l, bsG_some, bs_nil, bs_cons, pr2_some, pr1_some, enR_rt, enR_nx, rd, List.map_cons, List.map_nil, List.length_cons, List.length_nil, Nat.reduceAdd, Nat.reduceSub, List.replicate, List.cons_append, List.nil_append, List.set_cons_zero, List.set_cons_succ, List.getD_cons_zero, List.getD_cons_succ, e']
  rw [s1, thS_nx]
  exact r
end K69
open PySem PySem.W PySem.Calls PyProof.Rows
set_option maxHeartbeats 0 in
theorem PySem.Challenge.cw_tablewright_k69_whole_kinds_holds : PySem.Challenge.rw_tablewright_k69_whole_kinds.Holds := by
  w_on; o_law
  refine HandSHeadRun.head_any (r := OpenLaw.row PySem.Challenge.rw_tablewright_k69_whole_kinds) (q := view (OpenLaw.row PySem.Challenge.rw_tablewright_k69_whole_kinds).prog [23]) (H := K69.hk) (ob := K69.ob) (M := 4000) (loose := K69.loose) (d := HandSHeadRun.topDef (OpenLaw.row PySem.Challenge.rw_tablewright_k69_whole_kinds).prog 23) (kwd := []) K69.ob_eq
    (by kernel_rfl) (fun s => by kernel_rfl) K69.run (by kernel_rfl) (by kernel_rfl) (by kernel_rfl) (by rfl) (by first | assumption | decide +kernel) (by decide +kernel) ⟨rfl, rfl, rfl, rfl, rfl, by decide +kernel⟩ ?hw ?hc
  case hw => w_witness2
  case hc =>
    refine L2.walk_ofE (l := PySem.Challenge.rw_tablewright_k69_whole_kinds) (n := 63) (k := K69.depth + 2) (x := "script") (CX := L2.CX0) rfl (by decide) (by kernel_rfl) ⟨rfl, by decide, by decide⟩ ?F (fun _ _ _ _ z => z)
    intro w mg fa h Y hG hmg0
    obtain ⟨K, KX, c⟩ := Y
    have hmg : mg ("law" : PySem.Str) = some (.ref fa) := by
      have e : (HandSHeadRun.topDef (OpenLaw.row PySem.Challenge.rw_tablewright_k69_whole_kinds).prog 23).name = ("law" : PySem.Str) := by kernel_rfl
      rw [← e]
      exact hmg0
    obtain ⟨fd, hb, hF⟩ := K69.facts (Q := (PySem.Challenge.rw_tablewright_k69_whole_kinds).prog) (w := w) (n := K69.depth) c KX hG hmg K69.plain
    exact ⟨K, fd, Ev.spL K, KX, hb, fun H a ns hl _ hS => ⟨a, ns, rfl, hS, hl, fun _ => rfl⟩, hF⟩
