import PyProof.Rows.All
import Wide.All
import OpenK.AllK
import Wide.FinOn
import HandS.ForMost
import HandS.Wide
import HandS.TupAny
import HandS.TupLe
import HandS.Deep
import HandS.Style
import HandS.SortInts
import HandS.Conv
import HandS.Strs
import HandS.IsInst
import HandS.TupMul
import HandS.SetFor
import HandS.Exc
import HandS.ExcOwn
import HandS.CallSlots
import HandS.Iter
import HandS.ExcCtx
import HandS.HotCalls
import HandS.ExcInit
import HandS.ExcField
import KE.KExcIs
import HandS.More
import HandS.SortRule
import HandS.ExcInitHot
import KE.DataFind
import HandS.Defaults
import HandS.Ends
import HandS.Words
import HandS.WordsExc
import HandS.Head0
import HandS.Head1
import HandS.Head2
import HandS.HeadEnd
import HandS.HeadHook1
import HandS.HeadHook2
import HandS.Text
import PySem.Challenge.RW_holdsets_k11_faults_by_anybody
set_option Elab.async false
set_option linter.all false
set_option maxRecDepth 100000
set_option maxHeartbeats 4000000
/-! The evaluator: a small language (E, S) over pure data, and what its programs do. -/
namespace Ev
open PySem

abbrev D := PyData

/-! ### state -/
inductive Ob where
  | lst (xs : List D)
  | dk (kvs : List (D × D))
  | dt (kvs : List (D × D))
inductive SV where
  | d (x : D)
  | own (o : Ob) (mine : Bool)
  | ro (x : D)
abbrev Rho := List (Option SV)
inductive AV where
  | d (x : D) (fr : Bool)
  | var (i : Nat)
  | cst (x : D)
inductive R (α : Type) where
  | ok (a : α) (r : Rho)
  | exc (c : Nat) (fs : List D) (r : Rho)
  | stuck
@[simp] def R.bind {α β : Type} (x : R α) (f : α → Rho → R β) : R β := match x with
  | .ok a r => f a r
  | .exc c fs r => .exc c fs r
  | .stuck => .stuck
@[simp] def R.opt {α : Type} (o : Option α) (r : Rho) : R α := match o with
  | some a => .ok a r
  | none => .stuck
inductive CR where
  | ret (d : D) (fr : Bool) (outs : List SV)
  | exc (c : Nat) (fs : List D)
  | stuck
abbrev Sem := List SV → CR
abbrev Phi := Nat → Sem
/-- a statement's end -/
inductive SR where
  | next (r : Rho)
  | ret (d : D) (fr : Bool) (r : Rho)
  | exc (c : Nat) (fs : List D) (r : Rho)
  | stuck

/-! ### the language -/
inductive Op2 where
  | add | sub | mul | fdiv | mod | pow | xor | band | shl | shr
  deriving DecidableEq
inductive Cp where
  | eq | ne | lt | le | gt | ge | isN | notN | isB | notB | inS | ninS | inD | ninD | inT | ninT
  deriving DecidableEq
inductive Bi where
  | tuple | list | sorted | max1 | min1 | sum | all | any | int | str | lenSet | sortedSet
  deriving DecidableEq
inductive Bi2 where
  | max2 | min2
  deriving DecidableEq
/-- built-in types asked by isinstance -/
inductive Ty where
  | int | bool | tuple | list | str | dict
  deriving DecidableEq
/-- methods that read: two operands -/
inductive Mr where
  | lindex | tindex | lcount
  deriving DecidableEq
/-- a variable's dict whose keys are tuples -/
inductive Td where
  | isin | notin | get | list | sorted
  deriving DecidableEq
/-- methods that change a variable's object -/
inductive Mm where
  | append | extend | remove | pop0 | pop1
  deriving DecidableEq
inductive Tg where
  | one (i : Nat)
  | two (i j : Nat)
  deriving DecidableEq
mutual
inductive E where
  | var (i : Nat)
  | int (i : Int)
  | str (s : Str)
  | bl (b : Bool)
  | non
  | glob (x : Str) (d : D)
  | op2 (o : Op2) (a b : E)
  | neg (a : E)
  | not (a : E)
  | and (a b : E)
  | or (a b : E)
  | cmp (c : Cp) (a b : E)
  | chain (c c' : Cp) (a b d : E)
  | ite (c a b : E)
  | tup (es : Es)
  | lst (es : Es)
  | dict0
  | ix (a b : E)
  | dix (a b : E)
  | sl (a : E) (lo hi : Es)
  | rev (a : E)
  | len (a : E)
  | bi (b : Bi) (a : E)
  | bi2 (b : Bi2) (a c : E)
  | isi (a : E) (t : Ty)
  | mr (m : Mr) (a b : E)
  | dget1 (a k : E)
  | dget2 (a k x : E)
  | mm (m : Mm) (i : Nat) (es : Es)
  | td (o : Td) (i : Nat) (es : Es)
  | call (f : Nat) (es : Es)
  | callF (f : Nat) (e : E) (es : Es)
  | comp (tg : Tg) (it : It) (cond : Es) (elt : E)
  | inR1 (neg : Bool) (x b : E)
  | inR2 (neg : Bool) (x a b : E)
  | rng1 (t : Bool) (b : E)
  | rng2 (t : Bool) (a b : E)
inductive Es where
  | nil
  | cons (e : E) (es : Es)
inductive It where
  | seq (e : E)
  | range (es : Es)
  | enum (e : E)
end
/-- what stands in an except clause's suite: a small language of its own; the error's class and fields are known -/
inductive HE where
  | str (x : Str)
  | int (i : Int)
  | bl (b : Bool)
  | non
  | var (i : Nat)
  | fld (x : Str) (k j : Nat)
  | kind (f : Nat) (tbl : List Str)
  | whole (f : Nat) (a : HE)
  | eq (a b : HE)
  | ne (a b : HE)
  | isN (a : HE)
  | and (a b : HE)
  | or (a b : HE)
  | not (a : HE)
  | pair (a b : HE)
  | nint (i : Int)
inductive HS where
  | asg (i : Nat) (e : HE)
  | ret (e : HE)
  | ifR (c : HE) (e : HE)
mutual
inductive S where
  | expr (e : E)
  | asg (i : Nat) (e : E)
  | asgO (i : Nat) (e : E)
  | asgT (i : Nat)
  | unp (i j : Nat) (e : E)
  | par (i j : Nat) (a b : E)
  | set (i : Nat) (k e : E)
  | dset (i : Nat) (k e : E)
  | aug (i : Nat) (o : Op2) (e : E)
  | iff (c : E) (t f : Ss)
  | for_ (tg : Tg) (it : It) (b : Ss)
  | while_ (n : Nat) (c : E) (b : Ss)
  | ret (e : E)
  | pass
  | raise_ (c : Nat) (es : Es)
  | try_ (b : Ss) (i : Nat) (h : List HS)
  | never
inductive Ss where
  | nil
  | cons (s : S) (ss : Ss)
end

/-! ### data -/
mutual
def sameD : D → D → Bool
  | .none, .none => true
  | .bool a, .bool b => a == b
  | .int a, .int b => a == b
  | .str a, .str b => a == b
  | .list xs, .list ys => sameL xs ys
  | .tuple xs, .tuple ys => sameL xs ys
  | .dict xs, .dict ys => sameP xs ys
  | _, _ => false
def sameL : List D → List D → Bool
  | [], [] => true
  | x :: xs, y :: ys => sameD x y && sameL xs ys
  | _, _ => false
def sameP : List (D × D) → List (D × D) → Bool
  | [], [] => true
  | (x, u) :: xs, (y, v) :: ys => sameD x y && sameD u v && sameP xs ys
  | _, _ => false
end
def obD : Ob → D
  | .lst xs => .list xs
  | .dk kvs => .dict kvs
  | .dt kvs => .dict kvs
def obR : Ob → Option D
  | .lst xs => some (.list xs)
  | .dk kvs => some (.dict kvs)
  | .dt _ => none

/-- what stands for an operand: read -/
def rd (r : Rho) : AV → Option D
  | .d x _ => some x
  | .var i => match r[i]? with
    | some (some (.d x)) => some x
    | some (some (.own o _)) => obR o
    | _ => none
  | .cst _ => none
/-- .. where a thing that is only read will do, too -/
def rdr (r : Rho) : AV → Option D
  | .d x _ => some x
  | .var i => match r[i]? with
    | some (some (.d x)) => some x
    | some (some (.own o _)) => obR o
    | some (some (.ro x)) => some x
    | _ => none
  | .cst x => some x
/-- .. a known list, too -/
def rdl (r : Rho) : AV → Option D
  | .d x _ => some x
  | .var i => match r[i]? with
    | some (some (.d x)) => some x
    | some (some (.own o _)) => obR o
    | some (some (.ro x)) => some x
    | _ => none
  | .cst _ => none
/-- .. kept: the variable's object is written no more -/
def fz (r : Rho) : AV → R D
  | .d x _ => .ok x r
  | .var i => match r[i]? with
    | some (some (.d x)) => .ok x r
    | some (some (.own (.lst xs) true)) => .ok (.list xs) (r.set i (some (.d (.list xs))))
    | some (some (.own (.dk kvs) true)) => .ok (.dict kvs) (r.set i (some (.d (.dict kvs))))
    | _ => .stuck
  | .cst _ => .stuck

def line : Nat := 16777216
def smallI (i : Int) : Bool := decide (i.natAbs < 2 ^ 64)
def op2D : Op2 → D → D → Option (D × Bool)
  | .add, .int a, .int b => some (.int (a + b), false)
  | .add, .str a, .str b => if a.length + b.length ≤ line then some (.str (a ++ b), false) else none
  | .add, .tuple a, .tuple b => if a.length + b.length ≤ line then some (.tuple (a ++ b), false) else none
  | .add, .list a, .list b => if a.length + b.length ≤ line then some (.list (a ++ b), true) else none
  | .sub, .int a, .int b => some (.int (a - b), false)
  | .mul, .int a, .int b => if smallI a || smallI b then some (.int (a * b), false) else none
  | .mul, .list a, .int k => if decide (0 ≤ k) && decide (k.natAbs ≤ line) && decide (a.length * k.toNat ≤ line) then some (.list (List.replicate k.toNat a).flatten, true) else none
  | .mul, .tuple a, .int k => if !a.isEmpty && decide (1 ≤ k) && decide (k.natAbs ≤ 1000) && decide (a.length ≤ 1000) then some (.tuple (List.replicate k.toNat a).flatten, false) else none
  | .fdiv, .int a, .int b => if decide (0 < b) && decide (b.natAbs < 2 ^ 300) then some (.int (a / b), false) else none
  | .mod, .int a, .int b => if decide (0 < b) then some (.int (a % b), false) else none
  | .pow, .int a, .int b => if decide (0 ≤ b) && decide (b.natAbs ≤ 1000000) && decide (a.natAbs < 2 ^ 64) then some (.int (a ^ b.toNat), false) else none
  | .xor, .int a, .int b => some (.int (Builtin.bitXor a b), false)
  | .band, .int a, .int b => some (.int (Builtin.bitAnd a b), false)
  | .shl, .int a, .int b => if decide (0 ≤ b) && decide (b.natAbs ≤ 1000000) && decide (a.natAbs < 2 ^ 64) then some (.int (a * 2 ^ b.toNat), false) else none
  | .shr, .int a, .int b => if decide (0 ≤ b) then some (.int (a / 2 ^ b.toNat), false) else none
  | _, _, _ => none

def intsD : List D → Option (List Int)
  | [] => some []
  | .int i :: r => (intsD r).map (i :: ·)
  | _ => none
def boolsD : List D → Option (List Bool)
  | [] => some []
  | .bool i :: r => (boolsD r).map (i :: ·)
  | _ => none
/-- lists of ints, tuples compared -/
def ltI : List Int → List Int → Bool
  | [], [] => false
  | [], _ :: _ => true
  | _ :: _, [] => false
  | x :: xs, y :: ys => if x = y then ltI xs ys else decide (x < y)
def flatD : D → Bool
  | .none => true
  | .bool _ => true
  | .int _ => true
  | .str _ => true
  | _ => false
def inL (x : D) (ys : List D) : Bool := ys.any fun y => PyData.eqv y x
def isKey : D → Bool
  | .int _ => true
  | .str _ => true
  | _ => false
def keyT : D → Bool
  | .tuple xs => xs.all isKey
  | _ => false
def dfind (k : D) : List (D × D) → Option D
  | [] => none
  | (a, v) :: r => if sameD a k then some v else dfind k r
def dput (k v : D) (kvs : List (D × D)) : List (D × D) :=
  if kvs.any fun p => sameD p.1 k then kvs.map fun p => if sameD p.1 k then (p.1, v) else p else kvs ++ [(k, v)]
def cpD : Cp → D → D → Option Bool
  | .eq, x, y => if SeqAt.shaped x && SeqAt.shaped y then some (PyData.eqv x y) else none
  | .ne, x, y => if SeqAt.shaped x && SeqAt.shaped y then some (!PyData.eqv x y) else none
  | .lt, .int a, .int b => some (decide (a < b))
  | .le, .int a, .int b => some (decide (a ≤ b))
  | .gt, .int a, .int b => some (decide (b < a))
  | .ge, .int a, .int b => some (decide (b ≤ a))
  | .lt, .tuple a, .tuple b => match intsD a, intsD b with
    | some a, some b => some (ltI a b)
    | _, _ => none
  | .le, .tuple a, .tuple b => match intsD a, intsD b with
    | some a, some b => some (!ltI b a)
    | _, _ => none
  | .ge, .tuple a, .tuple b => match intsD a, intsD b with
    | some a, some b => some (!ltI a b)
    | _, _ => none
  | .isN, x, .none => some (match x with
    | .none => true
    | _ => false)
  | .notN, x, .none => some (match x with
    | .none => false
    | _ => true)
  | .isB, .bool a, .bool b => some (a == b)
  | .notB, .bool a, .bool b => some (!(a == b))
  | .inS, x, .list ys => if SeqAt.shaped x && SeqAt.shaped (.list ys) then some (inL x ys) else none
  | .ninS, x, .list ys => if SeqAt.shaped x && SeqAt.shaped (.list ys) then some (!inL x ys) else none
  | .inT, x, .tuple ys => if SeqAt.shaped x && SeqAt.shaped (.tuple ys) then some (inL x ys) else none
  | .ninT, x, .tuple ys => if SeqAt.shaped x && SeqAt.shaped (.tuple ys) then some (!inL x ys) else none
  | .inT, x, .list ys => if SeqAt.shaped x && SeqAt.shaped (.list ys) then some (inL x ys) else none
  | .ninT, x, .list ys => if SeqAt.shaped x && SeqAt.shaped (.list ys) then some (!inL x ys) else none
  | .inT, k, .dict kvs => if isKey k then some (dfind k kvs).isSome else none
  | .ninT, k, .dict kvs => if isKey k then some (!(dfind k kvs).isSome) else none
  | .inD, k, .dict kvs => if isKey k then some (dfind k kvs).isSome else none
  | .ninD, k, .dict kvs => if isKey k then some (!(dfind k kvs).isSome) else none
  | _, _, _ => none
def truthD : D → Option Bool
  | .none => some false
  | .bool b => some b
  | .int i => some (i != 0)
  | .list xs => some (!xs.isEmpty)
  | .tuple xs => some (!xs.isEmpty)
  | _ => none

def ixD : D → D → Option D
  | .list xs, .int i => L2.atI xs i
  | .tuple xs, .int i => L2.atI xs i
  | _, _ => none
def dixD : D → D → Option D
  | .dict kvs, k => if isKey k then dfind k kvs else none
  | _, _ => none
def slD (lo hi : Option Int) : D → Option (D × Bool)
  | .list xs => some (.list ((xs.drop (HT.sIx xs.length 0 lo)).take (HT.sIx xs.length xs.length hi - HT.sIx xs.length 0 lo)), true)
  | .tuple xs => some (.tuple ((xs.drop (HT.sIx xs.length 0 lo)).take (HT.sIx xs.length xs.length hi - HT.sIx xs.length 0 lo)), false)
  | _ => none
def revD : D → Option (D × Bool)
  | .list xs => some (.list xs.reverse, true)
  | .tuple xs => some (.tuple xs.reverse, false)
  | _ => none
def lenD : D → Option Int
  | .list xs => some xs.length
  | .tuple xs => some xs.length
  | .str s => if s.length ≤ line then some s.length else none
  | .dict kvs => some kvs.length
  | _ => none

def insI (x : Int) : List Int → List Int
  | [] => [x]
  | y :: r => if x ≤ y then x :: y :: r else y :: insI x r
def sortI : List Int → List Int
  | [] => []
  | x :: r => insI x (sortI r)
def lexP (p q : Int × Int) : Bool := if p.1 = q.1 then decide (p.2 < q.2) else decide (p.1 < q.1)
def insP (x : Int × Int) : List (Int × Int) → List (Int × Int)
  | [] => [x]
  | y :: r => if lexP y x then y :: insP x r else x :: y :: r
def sortP : List (Int × Int) → List (Int × Int)
  | [] => []
  | x :: r => insP x (sortP r)
def pairsD : List D → Option (List (Int × Int))
  | [] => some []
  | .tuple [.int a, .int b] :: r => (pairsD r).map ((a, b) :: ·)
  | _ => none
def pairD (p : Int × Int) : D := .tuple [.int p.1, .int p.2]
def sortedD (xs : List D) : Option (List D) := match intsD xs with
  | some ns => some ((sortI ns).map .int)
  | none => (pairsD xs).map fun ps => (sortP ps).map pairD
def maxI : List Int → Option Int
  | [] => none
  | x :: r => some (r.foldl max x)
def minI : List Int → Option Int
  | [] => none
  | x :: r => some (r.foldl min x)
def biD : Bi → D → Option (D × Bool)
  | .tuple, .list xs => some (.tuple xs, false)
  | .tuple, .tuple xs => some (.tuple xs, false)
  | .list, .list xs => some (.list xs, true)
  | .list, .tuple xs => some (.list xs, true)
  | .sorted, .list xs => (sortedD xs).map fun ys => (.list ys, true)
  | .max1, .list xs => ((intsD xs).bind maxI).map fun i => (.int i, false)
  | .min1, .list xs => ((intsD xs).bind minI).map fun i => (.int i, false)
  | .sum, .list xs => (intsD xs).map fun ns => (.int ns.sum, false)
  | .all, .list xs => (boolsD xs).map fun bs => (.bool (bs.all id), false)
  | .any, .list xs => (boolsD xs).map fun bs => (.bool (bs.any id), false)
  | .int, .int i => some (.int i, false)
  | .int, .bool b => some (.int (if b then 1 else 0), false)
  | .str, .int i => if i.natAbs.log2 < 1920 then some (.str (toString i), false) else none
  | _, _ => none
def bi2D : Bi2 → D → D → Option (D × Bool)
  | .max2, .int a, .int b => some (.int (if b > a then b else a), false)
  | .min2, .int a, .int b => some (.int (if b < a then b else a), false)
  | _, _, _ => none
def isiD : D → Ty → Bool
  | .int _, .int => true
  | .bool _, .int => true
  | .bool _, .bool => true
  | .tuple _, .tuple => true
  | .list _, .list => true
  | .str _, .str => true
  | .dict _, .dict => true
  | _, _ => false
def indexL (x : D) : List D → Nat → Option Nat
  | [], _ => none
  | y :: r, n => if PyData.eqv y x then some n else indexL x r (n + 1)
def mrD : Mr → D → D → Option (D × Bool)
  | .lindex, .list ys, x => if SeqAt.shaped x && SeqAt.shaped (.list ys) then (indexL x ys 0).map fun n => (.int n, false) else none
  | .tindex, .tuple ys, x => if SeqAt.shaped x && SeqAt.shaped (.tuple ys) then (indexL x ys 0).map fun n => (.int n, false) else none
  | _, _, _ => none
def removeI (x : Int) : List Int → Option (List Int)
  | [] => none
  | y :: r => if y = x then some r else (removeI x r).map (y :: ·)
def mmD : Mm → List D → List D → Option (List D × D)
  | .append, xs, [y] => if xs.length < line then some (xs ++ [y], .none) else none
  | .extend, xs, [.list ys] => if xs.length + ys.length ≤ line then some (xs ++ ys, .none) else none
  | .remove, xs, [.int k] => match intsD xs with
    | some ns => (removeI k ns).map fun r => (r.map .int, .none)
    | none => none
  | .pop0, xs, [] => match xs[xs.length - 1]? with
    | some y => some (xs.dropLast, y)
    | none => none
  | .pop1, xs, [.int i] => if decide (i.natAbs < 2 ^ 63) then match seqIndex? i xs.length with
    | some k => (xs[k]?).map fun y => (xs.eraseIdx k, y)
    | none => none
    else none
  | _, _, _ => none

/-! ### places -/
def setT : Tg → D → Rho → Option Rho
  | .one i, x, r => some (r.set i (some (.d x)))
  | .two i j, .tuple [x, y], r => some ((r.set i (some (.d x))).set j (some (.d y)))
  | _, _, _ => none
def Tg.slots : Tg → List Nat
  | .one i => [i]
  | .two i j => [i, j]
def wipeR : Rho → List Nat → Rho
  | r, [] => r
  | r, v :: vs => (wipeR r vs).set v none
def backR (r0 : Rho) : Rho → List Nat → Rho
  | r, [] => r
  | r, v :: vs => (backR r0 r vs).set v ((r0[v]?).getD none)
def rangeL (a b : Int) : List D := (List.range (b - a).toNat).map fun (k : Nat) => PyData.int (a + k)
def range3L (a b c : Int) : List D :=
  if c > 0 then (List.range ((b - a + c - 1) / c).toNat).map fun (k : Nat) => PyData.int (a + k * c)
  else (List.range ((a - b - c - 1) / (-c)).toNat).map fun (k : Nat) => PyData.int (a + k * c)
def okI (i : Int) : Bool := decide (i.natAbs ≤ 16777216)
def rangeD : List D → Option (List D)
  | [.int b] => if okI b then some (rangeL 0 b) else none
  | [.int a, .int b] => if okI a && okI b && decide ((b - a).toNat ≤ line) then some (rangeL a b) else none
  | [.int a, .int b, .int c] => if okI a && okI b && okI c && decide (c ≠ 0) && decide (b - a ≤ line) && decide (a - b ≤ line) then some (range3L a b c) else none
  | _ => none
def enumL (k : Nat) : List D → List D
  | [] => []
  | x :: r => .tuple [.int k, x] :: enumL (k + 1) r
def itemsD : D → Option (List D)
  | .list xs => some xs
  | .tuple xs => some xs
  | _ => none
/-- what is walked stands as it stood -/
def stands (c : Option (Nat × D)) (r : Rho) : Bool := match c with
  | none => true
  | some (i, x) => match r[i]? with
    | some (some (.own o _)) => sameD (obD o) x
    | _ => false
/-- .. of an operand -/
def walked (r : Rho) : AV → Option (Nat × D)
  | .var i => match r[i]? with
    | some (some (.own o _)) => some (i, obD o)
    | _ => none
  | _ => none

def whileN (c : Rho → R Bool) (b : Rho → SR) : Nat → Rho → SR
  | 0, _ => .stuck
  | n + 1, r => match c r with
    | .ok true r1 => match b r1 with
      | .next r2 => whileN c b n r2
      | s => s
    | .ok false r1 => .next r1
    | .exc k fs r1 => .exc k fs r1
    | .stuck => .stuck
def forL (tg : Tg) (b : Rho → SR) : List D → Rho → SR
  | [], r => .next r
  | x :: xs, r => match setT tg x r with
    | some r1 => match b r1 with
      | .next r2 => forL tg b xs r2
      | s => s
    | none => .stuck
/-- no error leaves -/
def nox {α : Type} : R α → R α
  | .exc _ _ _ => .stuck
  | x => x
def compL (tg : Tg) (c : Rho → R Bool) (e : Rho → R D) (chk : Option (Nat × D)) : List D → Rho → R (List D)
  | [], r => if stands chk r then .ok [] r else .stuck
  | x :: xs, r => if stands chk r then match setT tg x r with
    | some r1 => (nox (c r1)).bind fun k r2 => if k then (nox (e r2)).bind fun y r3 => (compL tg c e chk xs (wipeR r3 tg.slots)).bind fun ys r4 => .ok (y :: ys) r4
      else compL tg c e chk xs (wipeR r2 tg.slots)
    | none => .stuck
    else .stuck
def noOwn (r : Rho) : List Nat → Bool
  | [] => true
  | v :: vs => (match r[v]? with
    | some (some (.own _ _)) => false
    | some _ => true
    | none => false) && noOwn r vs

/-! ### calls -/
def argOf (r : Rho) : AV → Option SV
  | .d x false => some (.d x)
  | .d _ true => none
  | .cst _ => none
  | .var i => match r[i]? with
    | some (some (.d x)) => some (.d x)
    | some (some (.own o _)) => some (.own o false)
    | some (some (.ro x)) => some (.ro x)
    | _ => none
def argsV (r : Rho) : List AV → Option (List SV)
  | [] => some []
  | a :: as => match argOf r a, argsV r as with
    | some v, some vs => some (v :: vs)
    | _, _ => none
/-- the variables whose own objects are handed in -/
def lentOf (r : Rho) : AV → List Nat
  | .var i => match r[i]? with
    | some (some (.own _ _)) => [i]
    | _ => []
  | _ => []
def lent (r : Rho) : List AV → List Nat
  | [] => []
  | a :: as => lentOf r a ++ lent r as
def nodupN : List Nat → Bool
  | [] => true
  | x :: r => !r.contains x && nodupN r
def fits : List SV → List SV → Bool
  | [], [] => true
  | .own _ _ :: vs, .own _ false :: os => fits vs os
  | .own _ _ :: _, _ :: _ => false
  | _ :: vs, .own _ _ :: _ => false
  | _ :: vs, _ :: os => fits vs os
  | _, _ => false
def backC (r : Rho) : List AV → List SV → Rho
  | .var i :: as, .own o _ :: os => match r[i]? with
    | some (some (.own _ m)) => (backC r as os).set i (some (.own o m))
    | _ => backC r as os
  | _ :: as, _ :: os => backC r as os
  | _, _ => r
def callV (g : Sem) (as : List AV) (r : Rho) : R AV := match argsV r as with
  | none => .stuck
  | some vs => if nodupN (lent r as) then match g vs with
    | .ret d fr outs => if fits vs outs then .ok (.d d fr) (backC r as outs) else .stuck
    | .exc c fs => .exc c fs (wipeR r (lent r as))
    | .stuck => .stuck
    else .stuck

/-- .. as if it were a variable's own -/
def callFV (g : Sem) (x : AV) (as : List AV) (r : Rho) : R AV := match x with
  | .d (.list xs) true => (match callV g (.var r.length :: as) (r ++ [some (.own (.lst xs) true)]) with
    | .ok (.d d fr) r' => .ok (.d d fr) (r'.take r.length)
    | .exc c fs r' => .exc c fs (r'.take r.length)
    | _ => .stuck)
  | _ => .stuck
/-! ### expressions -/
def op1 (f : D → Option (D × Bool)) (x : AV) (r : Rho) : R AV := match rd r x with
  | some a => match f a with
    | some (z, fr) => .ok (.d z fr) r
    | none => .stuck
  | none => .stuck
def op1r (f : D → Option (D × Bool)) (x : AV) (r : Rho) : R AV := match rdr r x with
  | some a => match f a with
    | some (z, fr) => .ok (.d z fr) r
    | none => .stuck
  | none => .stuck
def op1l (f : D → Option (D × Bool)) (x : AV) (r : Rho) : R AV := match rdl r x with
  | some a => match f a with
    | some (z, fr) => .ok (.d z fr) r
    | none => .stuck
  | none => .stuck
def op2v (f : D → D → Option (D × Bool)) (x y : AV) (r : Rho) : R AV := match rd r x, rd r y with
  | some a, some b => match f a b with
    | some (z, fr) => .ok (.d z fr) r
    | none => .stuck
  | _, _ => .stuck
def pl {α : Type} (f : α → D) (o : Option α) : Option (D × Bool) := o.map fun a => (f a, false)
def cpV (c : Cp) (x y : AV) (r : Rho) : R Bool := match (match c with
    | .inT => (rd r x, rdr r y)
    | .ninT => (rd r x, rdr r y)
    | _ => (rd r x, rd r y)) with
  | (some a, some b) => match cpD c a b with
    | some k => .ok k r
    | none => .stuck
  | _ => .stuck
def truthV (x : AV) (r : Rho) : R Bool := match rd r x with
  | some a => match truthD a with
    | some k => .ok k r
    | none => .stuck
  | none => .stuck
def asBool (x : AV) (r : Rho) : R Bool := match x with
  | .d (.bool b) _ => .ok b r
  | _ => .stuck
def unfr : AV → AV
  | .d x _ => .d x false
  | a => a
def partD : List D → Option (Option Int)
  | [] => some none
  | [.int i] => some (some i)
  | _ => none
def partAV : List AV → Option (Option Int)
  | [] => some none
  | [.d (.int i) _] => some (some i)
  | _ => none
def rangeAV : List AV → Option (Int × Int)
  | [.d (.int b) _] => some (0, b)
  | [.d (.int a) _, .d (.int b) _] => some (a, b)
  | _ => none
def negD : D → Option (D × Bool)
  | .int i => some (.int (-i), false)
  | _ => none
def ixV (x y : AV) (r : Rho) : R AV := match rdr r x, rd r y with
  | some u, some v => match ixD u v with
    | some z => .ok (.d z false) r
    | none => .stuck
  | _, _ => .stuck
def dixP (u v : D) : Option (D × Bool) := (dixD u v).map fun z => (z, false)
def lenP (u : D) : Option (D × Bool) := (lenD u).map fun n => (.int n, false)
def isiP (t : Ty) (u : D) : Option (D × Bool) := some (.bool (isiD u t), false)
def dget1D : D → D → Option (D × Bool)
  | .dict kvs, v => if isKey v then some ((dfind v kvs).getD .none, false) else none
  | _, _ => none
def dget2V (x y w : AV) (r : Rho) : R AV := match rd r x, rd r y, rd r w with
  | some (.dict kvs), some v, some w => if isKey v && flatD w then .ok (.d ((dfind v kvs).getD w) false) r else .stuck
  | _, _, _ => .stuck
def isDV (x : AV) (r : Rho) : Bool := match rd r x with
  | some (.dict _) => true
  | _ => false
def isSV (m : Mr) (x : AV) (r : Rho) : Bool := match m, rd r x with
  | .lindex, some (.list _) => true
  | .tindex, some (.tuple _) => true
  | _, _ => false
def ownL (r : Rho) (i : Nat) : Bool := match r[i]? with
  | some (some (.own (.lst _) _)) => true
  | _ => false
def ownT (r : Rho) (i : Nat) : Bool := match r[i]? with
  | some (some (.own (.dt _) _)) => true
  | _ => false
def mmV (m : Mm) (i : Nat) (ys : List D) (r : Rho) : R AV := match r[i]? with
  | some (some (.own (.lst xs) mine)) => match mmD m xs ys with
    | some (zs, y) => .ok (.d y false) (r.set i (some (.own (.lst zs) mine)))
    | none => .stuck
  | _ => .stuck
def tdD : Td → List (D × D) → List D → Option (D × Bool)
  | .isin, kvs, [k] => if keyT k then some (.bool (dfind k kvs).isSome, false) else none
  | .notin, kvs, [k] => if keyT k then some (.bool (!(dfind k kvs).isSome), false) else none
  | .get, kvs, [k] => if keyT k then (dfind k kvs).map fun v => (v, false) else none
  | .list, kvs, [] => some (.list (kvs.map (·.1)), true)
  | .sorted, kvs, [] => (sortedD (kvs.map (·.1))).map fun ys => (.list ys, true)
  | _, _, _ => none
def tdV (o : Td) (i : Nat) (ys : List D) (r : Rho) : R AV := match r[i]? with
  | some (some (.own (.dt kvs) _)) => match tdD o kvs ys with
    | some (z, fr) => .ok (.d z fr) r
    | none => .stuck
  | _ => .stuck
def inRD (neg : Bool) (i a b : Int) : D := .bool (if neg then !(decide (a ≤ i) && decide (i < b)) else decide (a ≤ i) && decide (i < b))
def inR1D (neg : Bool) : D → D → Option (D × Bool)
  | .int i, .int b => some (inRD neg i 0 b, false)
  | _, _ => none
def inR2V (neg : Bool) (x y z : AV) (r : Rho) : R AV := match rd r x, rd r y, rd r z with
  | some (.int i), some (.int a), some (.int b) => .ok (.d (inRD neg i a b) false) r
  | _, _, _ => .stuck
def rngD (t : Bool) (a b : Int) : D × Bool := if t then (.tuple (rangeL a b), false) else (.list (rangeL a b), true)
def rng1D (t : Bool) : D → Option (D × Bool)
  | .int b => if okI b then some (rngD t 0 b) else none
  | _ => none
def rng2D (t : Bool) : D → D → Option (D × Bool)
  | .int a, .int b => if okI a && okI b && decide ((b - a).toNat ≤ line) then some (rngD t a b) else none
  | _, _ => none
def walkV (x : AV) (r : Rho) : R (List D × Option (Nat × D)) := match (rd r x).bind itemsD with
  | some xs => .ok (xs, walked r x) r
  | none => .stuck
def itemsL : D → Option (List D)
  | .list xs => some xs
  | .tuple xs => some xs
  | _ => none
def walkLV (x : AV) (r : Rho) : R (List D × Option (Nat × D)) := match (rd r x).bind itemsL with
  | some xs => .ok (xs, walked r x) r
  | none => .stuck
def datAV : List AV → Option (List D)
  | [] => some []
  | .d x _ :: r => (datAV r).map (x :: ·)
  | _ => none
def rangeV (as : List AV) (r : Rho) : R (List D × Option (Nat × D)) := match (datAV as).bind rangeD with
  | some xs => .ok (xs, none) r
  | none => .stuck
def stR {α : Type} (x : R α) (f : α → Rho → SR) : SR := match x with
  | .ok a r => f a r
  | .exc c fs r => .exc c fs r
  | .stuck => .stuck
/-- a value and its test -/
abbrev Pr := (Rho → R AV) × (Rho → R Bool)
def mkP (v : Rho → R AV) : Pr := (v, fun r => (v r).bind fun x r1 => truthV x r1)
def dof (v : Rho → R AV) (r : Rho) : R D := (v r).bind fun x r1 => fz r1 x
mutual
def evP (φ : Phi) : E → Pr
  | .var i => mkP fun r => match r[i]? with
    | some (some (.d x)) => .ok (.d x false) r
    | some (some (.own _ _)) => .ok (.var i) r
    | some (some (.ro _)) => .ok (.var i) r
    | _ => .stuck
  | .int i => mkP fun r => .ok (.d (.int i) false) r
  | .str s => mkP fun r => .ok (.d (.str s) false) r
  | .bl b => mkP fun r => .ok (.d (.bool b) false) r
  | .non => mkP fun r => .ok (.d .none false) r
  | .glob _ d => mkP fun r => match flatD d with
    | true => .ok (.d d false) r
    | false => .ok (.cst d) r
  | .op2 o a b => mkP fun r => ((evP φ a).1 r).bind fun x r1 => ((evP φ b).1 r1).bind fun y r2 => op2v (op2D o) x y r2
  | .neg a => mkP fun r => ((evP φ a).1 r).bind fun x r1 => op1 negD x r1
  | .not a => (fun r => ((evP φ a).1 r).bind fun x r1 => (asBool x r1).bind fun k r2 => .ok (.d (.bool (!k)) false) r2,
      fun r => ((evP φ a).2 r).bind fun k r1 => .ok (!k) r1)
  | .and a b => (fun r => ((evP φ a).1 r).bind fun x r1 => (asBool x r1).bind fun k r2 => if k then (evP φ b).1 r2 else .ok (.d (.bool false) false) r2,
      fun r => ((evP φ a).2 r).bind fun k r1 => if k then (evP φ b).2 r1 else .ok false r1)
  | .or a b => (fun r => ((evP φ a).1 r).bind fun x r1 => (asBool x r1).bind fun k r2 => if k then .ok (.d (.bool true) false) r2 else (evP φ b).1 r2,
      fun r => ((evP φ a).2 r).bind fun k r1 => if k then .ok true r1 else (evP φ b).2 r1)
  | .cmp c a b => mkP fun r => ((evP φ a).1 r).bind fun x r1 => ((evP φ b).1 r1).bind fun y r2 => (cpV c x y r2).bind fun k r3 => .ok (.d (.bool k) false) r3
  | .chain c c' a b d => mkP fun r => ((evP φ a).1 r).bind fun x r1 => ((evP φ b).1 r1).bind fun y r2 => (cpV c x y r2).bind fun k r3 =>
      if k then ((evP φ d).1 r3).bind fun z r4 => (cpV c' y z r4).bind fun k' r5 => .ok (.d (.bool k') false) r5
      else .ok (.d (.bool false) false) r3
  | .ite c a b => (fun r => ((evP φ c).2 r).bind fun k r1 => if k then (evP φ a).1 r1 else (evP φ b).1 r1,
      fun r => ((evP φ c).2 r).bind fun k r1 => if k then (evP φ a).2 r1 else (evP φ b).2 r1)
  | .tup es => mkP fun r => (evDs φ es r).bind fun xs r1 => .ok (.d (.tuple xs) false) r1
  | .lst es => mkP fun r => (evDs φ es r).bind fun xs r1 => .ok (.d (.list xs) true) r1
  | .dict0 => mkP fun r => .ok (.d (.dict []) true) r
  | .ix a b => mkP fun r => ((evP φ a).1 r).bind fun x r1 => ((evP φ b).1 r1).bind fun y r2 => ixV x y r2
  | .dix a b => mkP fun r => ((evP φ a).1 r).bind fun x r1 => ((evP φ b).1 r1).bind fun y r2 => op2v dixP x y r2
  | .sl a lo hi => mkP fun r => ((evP φ a).1 r).bind fun x r1 => ((evAs φ lo r1).bind fun l r2 => R.opt (partAV l) r2).bind fun l r2 => ((evAs φ hi r2).bind fun h r3 => R.opt (partAV h) r3).bind fun h r3 => op1l (slD l h) x r3
  | .rev a => mkP fun r => ((evP φ a).1 r).bind fun x r1 => op1 revD x r1
  | .len a => mkP fun r => ((evP φ a).1 r).bind fun x r1 => op1r lenP x r1
  | .bi b a => mkP fun r => ((evP φ a).1 r).bind fun x r1 => op1 (biD b) x r1
  | .bi2 b a c => mkP fun r => ((evP φ a).1 r).bind fun x r1 => ((evP φ c).1 r1).bind fun y r2 => op2v (bi2D b) x y r2
  | .isi a t => mkP fun r => ((evP φ a).1 r).bind fun x r1 => op1 (isiP t) x r1
  | .mr m a b => mkP fun r => ((evP φ a).1 r).bind fun x r1 => if isSV m x r1 then ((evP φ b).1 r1).bind fun y r2 => op2v (mrD m) x y r2 else .stuck
  | .dget1 a k => mkP fun r => ((evP φ a).1 r).bind fun x r1 => if isDV x r1 then ((evP φ k).1 r1).bind fun y r2 => op2v dget1D x y r2 else .stuck
  | .dget2 a k z => mkP fun r => ((evP φ a).1 r).bind fun x r1 => if isDV x r1 then ((evP φ k).1 r1).bind fun y r2 => ((evP φ z).1 r2).bind fun w r3 => dget2V x y w r3 else .stuck
  | .mm m i es => mkP fun r => if ownL r i then (evDs φ es r).bind fun ys r1 => mmV m i ys r1 else .stuck
  | .td o i es => mkP fun r => if ownT r i then (evDs φ es r).bind fun ys r1 => tdV o i ys r1 else .stuck
  | .call f es => mkP fun r => (evAs φ es r).bind fun as r1 => callV (φ f) as r1
  | .callF f e es => mkP fun r => ((evP φ e).1 r).bind fun x r1 => (evAs φ es r1).bind fun as r2 => callFV (φ f) x as r2
  | .comp tg it cond elt => mkP fun r => (evIt φ it r).bind fun q r1 => if noOwn r1 tg.slots && decide (q.1.length ≤ line) then (compL tg (evC φ cond) (dof (evP φ elt).1) q.2 q.1 (wipeR r1 tg.slots)).bind fun ys r2 => .ok (.d (.list ys) true) (backR r1 r2 tg.slots) else .stuck
  | .inR1 neg x b => mkP fun r => ((evP φ x).1 r).bind fun x r1 => ((evP φ b).1 r1).bind fun y r2 => op2v (inR1D neg) x y r2
  | .inR2 neg x a b => mkP fun r => ((evP φ x).1 r).bind fun x r1 => ((evP φ a).1 r1).bind fun y r2 => ((evP φ b).1 r2).bind fun z r3 => inR2V neg x y z r3
  | .rng1 t b => mkP fun r => ((evP φ b).1 r).bind fun x r1 => op1 (rng1D t) x r1
  | .rng2 t a b => mkP fun r => ((evP φ a).1 r).bind fun x r1 => ((evP φ b).1 r1).bind fun y r2 => op2v (rng2D t) x y r2
def evDs (φ : Phi) : Es → Rho → R (List D)
  | .nil, r => .ok [] r
  | .cons e es, r => (dof (evP φ e).1 r).bind fun x r1 => (evDs φ es r1).bind fun xs r2 => .ok (x :: xs) r2
def evAs (φ : Phi) : Es → Rho → R (List AV)
  | .nil, r => .ok [] r
  | .cons e es, r => ((evP φ e).1 r).bind fun x r1 => (evAs φ es r1).bind fun xs r2 => .ok (unfr x :: xs) r2
def evC (φ : Phi) : Es → Rho → R Bool
  | .nil, r => .ok true r
  | .cons e _, r => (evP φ e).2 r
def evIt (φ : Phi) : It → Rho → R (List D × Option (Nat × D))
  | .seq e, r => ((evP φ e).1 r).bind fun x r1 => walkV x r1
  | .range es, r => (evAs φ es r).bind fun as r1 => rangeV as r1
  | .enum e, r => ((evP φ e).1 r).bind fun x r1 => (walkLV x r1).bind fun q r2 => .ok (enumL 0 q.1, q.2) r2
end
def evE (φ : Phi) (e : E) : Rho → R AV := (evP φ e).1
def evT (φ : Phi) (e : E) : Rho → R Bool := (evP φ e).2
def evD (φ : Phi) (e : E) : Rho → R D := dof (evP φ e).1
/-- .. walked by a for: a variable's object is kept first -/
def evItF (φ : Phi) : It → Rho → R (List D)
  | .seq e, r => (evD φ e r).bind fun x r1 => R.opt (itemsD x) r1
  | .range es, r => (evAs φ es r).bind fun as r1 => (rangeV as r1).bind fun q r2 => .ok q.1 r2
  | .enum e, r => (evD φ e r).bind fun x r1 => R.opt ((itemsL x).map (enumL 0)) r1
def ownA (r : Rho) (i : Nat) : Bool := match r[i]? with
  | some (some (.own _ _)) => true
  | _ => false
def setV (i : Nat) (x : D) (y : AV) (r : Rho) : SR := match r[i]?, y with
  | some (some (.own (.lst xs) m)), .d (.int n) _ => match L2.ixN xs.length n with
    | some j => .next (r.set i (some (.own (.lst (xs.set j x)) m)))
    | none => .stuck
  | _, _ => .stuck
def dsetV (i : Nat) (x y : D) (r : Rho) : SR := match r[i]? with
  | some (some (.own (.dk kvs) m)) => if decide (kvs.length < line) && isKey y then .next (r.set i (some (.own (.dk (dput y x kvs)) m))) else .stuck
  | some (some (.own (.dt kvs) m)) => if decide (kvs.length < line) && keyT y then .next (r.set i (some (.own (.dt (dput y x kvs)) m))) else .stuck
  | _ => .stuck
def augV (o : Op2) (i : Nat) (a : Int) (y : AV) (r : Rho) : SR := match y with
  | .d (.int b) _ => match op2D o (.int a) (.int b) with
    | some (z, _) => .next (r.set i (some (.d z)))
    | none => .stuck
  | _ => .stuck
def retV (x : AV) (r : Rho) : SR := match x with
  | .d x fr => .ret x fr r
  | .var i => match r[i]? with
    | some (some (.d x)) => .ret x false r
    | some (some (.own (.lst xs) true)) => .ret (.list xs) true (r.set i none)
    | some (some (.own (.dk kvs) true)) => .ret (.dict kvs) true (r.set i none)
    | _ => .stuck
  | _ => .stuck
def asgV (i : Nat) (x : AV) (r : Rho) : SR := match x with
  | .d (.list xs) true => .next (r.set i (some (.own (.lst xs) true)))
  | .d (.dict kvs) true => .next (r.set i (some (.own (.dk kvs) true)))
  | _ => .stuck
def unpV (i j : Nat) (x : AV) (r : Rho) : SR := match rd r x with
  | some (.tuple [a, b]) => .next ((r.set i (some (.d a))).set j (some (.d b)))
  | _ => .stuck
def evHE (c : Nat) (fs : List D) (r : Rho) : HE → Option D
  | .str x => some (.str x)
  | .int i => some (.int i)
  | .nint i => some (.int (-i))
  | .bl b => some (.bool b)
  | .non => some .none
  | .var i => (match r[i]? with
    | some (some (.d x)) => some x
    | _ => none)
  | .fld _ k j => if c = k then fs[j]? else none
  | .kind _ tbl => (tbl[c]?).map .str
  | .whole _ a => (match evHE c fs r a with
    | some (.int _) => some (.bool true)
    | _ => none)
  | .eq a b => (match evHE c fs r a, evHE c fs r b with
    | some x, some y => (cpD .eq x y).map .bool
    | _, _ => none)
  | .ne a b => (match evHE c fs r a, evHE c fs r b with
    | some x, some y => (cpD .ne x y).map .bool
    | _, _ => none)
  | .isN a => (match evHE c fs r a with
    | some x => (cpD .isN x .none).map .bool
    | _ => none)
  | .and a b => (match evHE c fs r a with
    | some (.bool true) => evHE c fs r b
    | some (.bool false) => some (.bool false)
    | _ => none)
  | .or a b => (match evHE c fs r a with
    | some (.bool true) => some (.bool true)
    | some (.bool false) => evHE c fs r b
    | _ => none)
  | .not a => (match evHE c fs r a with
    | some (.bool b) => some (.bool (!b))
    | _ => none)
  | .pair a b => (match evHE c fs r a, evHE c fs r b with
    | some x, some y => some (.tuple [x, y])
    | _, _ => none)
def evHS (c : Nat) (fs : List D) : List HS → Rho → SR
  | [], r => .next r
  | .asg i e :: ss, r => (match evHE c fs r e with
    | some x => evHS c fs ss (r.set i (some (.d x)))
    | none => .stuck)
  | .ret e :: _, r => (match evHE c fs r e with
    | some x => .ret x false r
    | none => .stuck)
  | .ifR k e :: ss, r => (match evHE c fs r k with
    | some (.bool true) => (match evHE c fs r e with
      | some x => .ret x false r
      | none => .stuck)
    | some (.bool false) => evHS c fs ss r
    | _ => .stuck)
/-- behind an except clause its name is gone -/
def goneS (i : Nat) : SR → SR
  | .next r => .next (r.set i none)
  | .ret d fr r => if fr then .stuck else .ret d false (r.set i none)
  | .exc _ _ _ => .stuck
  | .stuck => .stuck
def catchS (i : Nat) (h : List HS) : SR → SR
  | .exc c fs r => if i < r.length then goneS i (evHS c fs h (r.set i none)) else .stuck
  | q => q
mutual
def evS (φ : Phi) : S → Rho → SR
  | .expr e, r => stR (evE φ e r) fun _ r1 => .next r1
  | .asg i e, r => stR (evD φ e r) fun x r1 => .next (r1.set i (some (.d x)))
  | .asgO i e, r => stR (evE φ e r) fun x r1 => asgV i x r1
  | .asgT i, r => .next (r.set i (some (.own (.dt []) true)))
  | .unp i j e, r => stR (evE φ e r) fun x r1 => unpV i j x r1
  | .par i j a b, r => stR (evD φ a r) fun x r1 => stR (evD φ b r1) fun y r2 => .next ((r2.set i (some (.d x))).set j (some (.d y)))
  | .set i k e, r => stR (evD φ e r) fun x r1 => if ownA r1 i then stR (evE φ k r1) fun y r2 => setV i x y r2 else .stuck
  | .dset i k e, r => stR (evD φ e r) fun x r1 => if ownA r1 i then stR (evD φ k r1) fun y r2 => dsetV i x y r2 else .stuck
  | .aug i o e, r => match r[i]? with
    | some (some (.d (.int a))) => stR (evE φ e r) fun y r1 => augV o i a y r1
    | _ => .stuck
  | .iff c t f, r => stR (evT φ c r) fun k r1 => if k then evSs φ t r1 else evSs φ f r1
  | .for_ tg it b, r => stR (evItF φ it r) fun xs r1 => forL tg (evSs φ b) xs r1
  | .while_ n c b, r => whileN (evT φ c) (evSs φ b) n r
  | .ret e, r => stR (evE φ e r) fun x r1 => retV x r1
  | .pass, r => .next r
  | .raise_ c es, r => stR (evDs φ es r) fun xs r1 => .exc c xs r1
  | .try_ b i h, r => catchS i h (evSs φ b r)
  | .never, r => .stuck
def evSs (φ : Phi) : Ss → Rho → SR
  | .nil, r => .next r
  | .cons s ss, r => match evS φ s r with
    | .next r1 => evSs φ ss r1
    | q => q
end
/-- what a def hands back: k parameters, n names -/
def outsV : List SV → Rho → Option (List SV)
  | [], _ => some []
  | .own _ _ :: vs, .cons (some (.own o false)) r => (outsV vs r).map (.own o false :: ·)
  | .own _ _ :: _, _ => none
  | v :: vs, .cons _ r => (outsV vs r).map (v :: ·)
  | _ :: _, [] => none
def fnV (n k : Nat) (b : Ss) (φ : Phi) : Sem := fun vs => if vs.length = k then match evSs φ b (vs.map some ++ List.replicate (n - k) none) with
    | .next r => match outsV vs r with
      | some os => .ret .none false os
      | none => .stuck
    | .ret d fr r => match outsV vs r with
      | some os => .ret d fr os
      | none => .stuck
    | .exc c fs _ => .exc c fs
    | .stuck => .stuck
  else .stuck
/-- a def that calls itself, n deep -/
def fixV (f : Sem → Sem) : Nat → Sem
  | 0 => fun _ => .stuck
  | n + 1 => f (fixV f n)
end Ev
/-! Data over the abstract heap: what stands for what, and the operators. -/
namespace Ev
open PySem PySem.Spec PyProof.Rows L2

def keyDt : Key → D
  | .inl i => .int i
  | .inr x => .str x
mutual
/-- v stands for the datum, out of the reach of A -/
inductive Rep (A : Addr → Prop) (H : Hp) : V → D → Prop
  | non : Rep A H .non .none
  | bl (b : Bool) : Rep A H (.bl b) (.bool b)
  | int (i : Int) : Rep A H (.int i) (.int i)
  | str (x : Str) : Rep A H (.str x) (.str x)
  | lst {p : Addr} {vs : List V} {xs : List D} (na : ¬ A p) (e : H p = some (.lst vs)) (r : RepL A H vs xs) : Rep A H (.ref p) (.list xs)
  | tup {p : Addr} {vs : List V} {xs : List D} (na : ¬ A p) (e : H p = some (.tup vs)) (r : RepL A H vs xs) : Rep A H (.ref p) (.tuple xs)
  | dct {p : Addr} {ws : List (Key × V)} {kvs : List (D × D)} (na : ¬ A p) (e : H p = some (.dK ws)) (r : RepK A H ws kvs) : Rep A H (.ref p) (.dict kvs)
inductive RepL (A : Addr → Prop) (H : Hp) : List V → List D → Prop
  | nil : RepL A H [] []
  | cons {v : V} {vs : List V} {x : D} {xs : List D} (h : Rep A H v x) (t : RepL A H vs xs) : RepL A H (v :: vs) (x :: xs)
inductive RepK (A : Addr → Prop) (H : Hp) : List (Key × V) → List (D × D) → Prop
  | nil : RepK A H [] []
  | cons {k : Key} {v : V} {ws : List (Key × V)} {x : D} {kvs : List (D × D)} (h : Rep A H v x) (t : RepK A H ws kvs) : RepK A H ((k, v) :: ws) ((keyDt k, x) :: kvs)
end
inductive RepT (A : Addr → Prop) (H : Hp) : List (List Key × V) → List (D × D) → Prop
  | nil : RepT A H [] []
  | cons {k : List Key} {v : V} {ws : List (List Key × V)} {x : D} {kvs : List (D × D)} (h : Rep A H v x) (t : RepT A H ws kvs) : RepT A H ((k, v) :: ws) ((.tuple (k.map keyDt), x) :: kvs)
/-- what stands at a variable's own address -/
def ObRep (A : Addr → Prop) (H : Hp) (p : Addr) : Ob → Prop
  | .lst xs => ∃ vs, H p = some (.lst vs) ∧ RepL A H vs xs
  | .dk kvs => ∃ ws, H p = some (.dK ws) ∧ RepK A H ws kvs
  | .dt kvs => ∃ ws, H p = some (.dT ws) ∧ RepT A H ws kvs
/-- a new thing's content -/
def ObD (A : Addr → Prop) (H : Hp) (p : Addr) : D → Prop
  | .list xs => ∃ vs, H p = some (.lst vs) ∧ RepL A H vs xs
  | .dict kvs => ∃ ws, H p = some (.dK ws) ∧ RepK A H ws kvs
  | _ => False
/-- read: the thing itself may lie anywhere -/
def RepB (A : Addr → Prop) (H : Hp) (v : V) : D → Prop
  | .none => v = .non
  | .bool b => v = .bl b
  | .int i => v = .int i
  | .str x => v = .str x
  | .list xs => ∃ p vs, v = .ref p ∧ H p = some (.lst vs) ∧ RepL A H vs xs
  | .tuple xs => ∃ p vs, v = .ref p ∧ ¬ A p ∧ H p = some (.tup vs) ∧ RepL A H vs xs
  | .dict kvs => ∃ p ws, v = .ref p ∧ H p = some (.dK ws) ∧ RepK A H ws kvs
/-- .. and may be the module's, or known -/
def RepR (K : PySem.W.Frag) (A : Addr → Prop) (H : Hp) (v : V) (d : D) : Prop := RepB A H v d ∨ match d with
  | .list xs => ∃ p vs, v = .ref p ∧ SqL K H p vs ∧ RepL A H vs xs
  | .tuple xs => ∃ p vs, v = .ref p ∧ SqT K H p vs ∧ RepL A H vs xs
  | _ => False

section
variable {A A' : Addr → Prop} {H H' : Hp}
mutual
theorem Rep.step (k : ∀ p o, H p = some o → ¬ A p → H' p = some o) (a : ∀ p, A' p → A p ∨ H p = none) : ∀ {v : V} {d : D}, Rep A H v d → Rep A' H' v d
  | _, _, .non => .non
  | _, _, .bl b => .bl b
  | _, _, .int i => .int i
  | _, _, .str x => .str x
  | _, _, .lst na e r => .lst (fun h => (a _ h).elim na fun z => by rw [e] at z; cases z) (k _ _ e na) (RepL.step k a r)
  | _, _, .tup na e r => .tup (fun h => (a _ h).elim na fun z => by rw [e] at z; cases z) (k _ _ e na) (RepL.step k a r)
  | _, _, .dct na e r => .dct (fun h => (a _ h).elim na fun z => by rw [e] at z; cases z) (k _ _ e na) (RepK.step k a r)
theorem RepL.step (k : ∀ p o, H p = some o → ¬ A p → H' p = some o) (a : ∀ p, A' p → A p ∨ H p = none) : ∀ {vs : List V} {ds : List D}, RepL A H vs ds → RepL A' H' vs ds
  | _, _, .nil => .nil
  | _, _, .cons h t => .cons (Rep.step k a h) (RepL.step k a t)
theorem RepK.step (k : ∀ p o, H p = some o → ¬ A p → H' p = some o) (a : ∀ p, A' p → A p ∨ H p = none) : ∀ {vs : List (Key × V)} {ds : List (D × D)}, RepK A H vs ds → RepK A' H' vs ds
  | _, _, .nil => .nil
  | _, _, .cons h t => .cons (Rep.step k a h) (RepK.step k a t)
end
theorem RepT.step (k : ∀ p o, H p = some o → ¬ A p → H' p = some o) (a : ∀ p, A' p → A p ∨ H p = none) : ∀ {vs : List (List Key × V)} {ds : List (D × D)}, RepT A H vs ds → RepT A' H' vs ds
  | _, _, .nil => .nil
  | _, _, .cons h t => .cons (Rep.step k a h) (RepT.step k a t)
theorem RepB.step (k : ∀ p o, H p = some o → H' p = some o) (a : ∀ p, A' p → A p ∨ H p = none) {v : V} : ∀ {d : D}, RepB A H v d → RepB A' H' v d
  | .none, h => h
  | .bool _, h => h
  | .int _, h => h
  | .str _, h => h
  | .list _, ⟨p, vs, e, h, r⟩ => ⟨p, vs, e, k _ _ h, r.step (fun p o e _ => k p o e) a⟩
  | .tuple _, ⟨p, vs, e, n, h, r⟩ => ⟨p, vs, e, fun z => (a _ z).elim n fun z => (by rw [h] at z; cases z), k _ _ h, r.step (fun p o e _ => k p o e) a⟩
  | .dict _, ⟨p, ws, e, h, r⟩ => ⟨p, ws, e, k _ _ h, r.step (fun p o e _ => k p o e) a⟩
theorem ObD.step {p : Addr} (k : ∀ q o, H q = some o → (q = p ∨ ¬ A q) → H' q = some o) (a : ∀ p, A' p → A p ∨ H p = none) : ∀ {d : D}, ObD A H p d → ObD A' H' p d
  | .list _, ⟨vs, h, r⟩ => ⟨vs, k _ _ h (.inl rfl), r.step (fun p o e n => k p o e (.inr n)) a⟩
  | .dict _, ⟨vs, h, r⟩ => ⟨vs, k _ _ h (.inl rfl), r.step (fun p o e n => k p o e (.inr n)) a⟩
theorem ObRep.step {p : Addr} (k : ∀ q o, H q = some o → (q = p ∨ ¬ A q) → H' q = some o) (a : ∀ p, A' p → A p ∨ H p = none) : ∀ {o : Ob}, ObRep A H p o → ObRep A' H' p o
  | .lst _, ⟨vs, h, r⟩ => ⟨vs, k _ _ h (.inl rfl), r.step (fun p o e n => k p o e (.inr n)) a⟩
  | .dk _, ⟨vs, h, r⟩ => ⟨vs, k _ _ h (.inl rfl), r.step (fun p o e n => k p o e (.inr n)) a⟩
  | .dt _, ⟨vs, h, r⟩ => ⟨vs, k _ _ h (.inl rfl), r.step (fun p o e n => k p o e (.inr n)) a⟩
theorem Rep.b {v : V} {d : D} (h : Rep A H v d) : RepB A H v d := by
  cases h with
  | non => rfl
  | bl b => rfl
  | int i => rfl
  | str x => rfl
  | lst na e r => exact ⟨_, _, rfl, e, r⟩
  | tup na e r => exact ⟨_, _, rfl, na, e, r⟩
  | dct na e r => exact ⟨_, _, rfl, e, r⟩
theorem ObRep.b {p : Addr} {d : D} : ∀ {o : Ob}, ObRep A H p o → obR o = some d → RepB A H (.ref p) d
  | .lst _, ⟨vs, h, r⟩, e => by cases e; exact ⟨p, vs, rfl, h, r⟩
  | .dk _, ⟨vs, h, r⟩, e => by cases e; exact ⟨p, vs, rfl, h, r⟩
  | .dt _, _, e => by cases e
theorem ObD.b {p : Addr} : ∀ {d : D}, ObD A H p d → RepB A H (.ref p) d
  | .list _, ⟨vs, h, r⟩ => ⟨p, vs, rfl, h, r⟩
  | .dict _, ⟨vs, h, r⟩ => ⟨p, vs, rfl, h, r⟩
theorem ObD.rep {p : Addr} (na : ¬ A p) : ∀ {d : D}, ObD A H p d → Rep A H (.ref p) d
  | .list _, ⟨vs, h, r⟩ => .lst na h r
  | .dict _, ⟨vs, h, r⟩ => .dct na h r
theorem RepL.length : ∀ {vs : List V} {ds : List D}, RepL A H vs ds → vs.length = ds.length
  | _, _, .nil => rfl
  | _, _, .cons _ t => congrArg Nat.succ (RepL.length t)
theorem RepL.append : ∀ {vs ws : List V} {ds es : List D}, RepL A H vs ds → RepL A H ws es → RepL A H (vs ++ ws) (ds ++ es)
  | _, _, _, _, .nil, s => s
  | _, _, _, _, .cons h t, s => .cons h (RepL.append t s)
theorem RepL.get : ∀ {vs : List V} {ds : List D} {i : Nat} {d : D}, RepL A H vs ds → ds[i]? = some d → ∃ v, vs[i]? = some v ∧ Rep A H v d
  | _, _, _, _, .nil, e => by simp at e
  | _, _, 0, _, .cons h _, e => by simp at e; subst e; exact ⟨_, rfl, h⟩
  | _, _, i + 1, _, .cons _ t, e => by
    obtain ⟨v, h1, h2⟩ := RepL.get (i := i) t (by simpa using e)
    exact ⟨v, by simpa using h1, h2⟩
theorem RepL.getV : ∀ {vs : List V} {ds : List D} {i : Nat} {v : V}, RepL A H vs ds → vs[i]? = some v → ∃ d, ds[i]? = some d ∧ Rep A H v d
  | _, _, _, _, .nil, e => by simp at e
  | _, _, 0, _, .cons h _, e => by simp at e; subst e; exact ⟨_, rfl, h⟩
  | _, _, i + 1, _, .cons _ t, e => by
    obtain ⟨d, h1, h2⟩ := RepL.getV (i := i) t (by simpa using e)
    exact ⟨d, by simpa using h1, h2⟩
theorem RepL.take : ∀ {vs : List V} {ds : List D} (n : Nat), RepL A H vs ds → RepL A H (vs.take n) (ds.take n)
  | _, _, 0, _ => by simp; exact .nil
  | _, _, _ + 1, .nil => .nil
  | _, _, n + 1, .cons h t => .cons h (RepL.take n t)
theorem RepL.drop : ∀ {vs : List V} {ds : List D} (n : Nat), RepL A H vs ds → RepL A H (vs.drop n) (ds.drop n)
  | _, _, 0, r => r
  | _, _, _ + 1, .nil => .nil
  | _, _, n + 1, .cons _ t => RepL.drop n t
theorem RepL.set {v : V} {d : D} (r : Rep A H v d) : ∀ {vs : List V} {ds : List D} (i : Nat), RepL A H vs ds → RepL A H (vs.set i v) (ds.set i d)
  | _, _, _, .nil => .nil
  | _, _, 0, .cons _ t => .cons r t
  | _, _, i + 1, .cons h t => .cons h (RepL.set r i t)
theorem RepL.reverse {vs : List V} {ds : List D} (r : RepL A H vs ds) : RepL A H vs.reverse ds.reverse := by
  induction vs generalizing ds with
  | nil => cases r; exact .nil
  | cons v vs ih =>
    cases r with
    | cons h t =>
      rw [List.reverse_cons, List.reverse_cons]
      exact (ih t).append (.cons h .nil)
theorem RepL.eraseIdx : ∀ {vs : List V} {ds : List D} (i : Nat), RepL A H vs ds → RepL A H (vs.eraseIdx i) (ds.eraseIdx i)
  | _, _, _, .nil => .nil
  | _, _, 0, .cons _ t => t
  | _, _, i + 1, .cons h t => .cons h (RepL.eraseIdx i t)
theorem RepL.dropLast {vs : List V} {ds : List D} (r : RepL A H vs ds) : RepL A H vs.dropLast ds.dropLast := by
  rw [List.dropLast_eq_take, List.dropLast_eq_take, r.length]
  exact r.take _
theorem RepL.rep {vs : List V} {ds : List D} (r : RepL A H vs ds) : ∀ k : Nat, RepL A H (List.replicate k vs).flatten (List.replicate k ds).flatten
  | 0 => .nil
  | k + 1 => by
    rw [List.replicate_succ, List.replicate_succ, List.flatten_cons, List.flatten_cons]
    exact r.append (RepL.rep r k)
theorem RepL.ints : ∀ {vs : List V} {ds : List D} {ns : List Int}, RepL A H vs ds → intsD ds = some ns → vs = ns.map V.int
  | _, _, _, .nil, e => by cases e; rfl
  | _, _, _, .cons (x := .int i) (xs := xs) h t, e => by
    cases h
    have e' : (intsD xs).map (i :: ·) = some _ := e
    cases q : intsD xs with
    | none => rw [q] at e'; cases e'
    | some m =>
      rw [q] at e'; cases e'
      rw [List.map_cons, ← RepL.ints t q]
  | _, _, _, .cons (x := .none) _ _, e => by cases e
  | _, _, _, .cons (x := .bool _) _ _, e => by cases e
  | _, _, _, .cons (x := .str _) _ _, e => by cases e
  | _, _, _, .cons (x := .list _) _ _, e => by cases e
  | _, _, _, .cons (x := .tuple _) _ _, e => by cases e
  | _, _, _, .cons (x := .dict _) _ _, e => by cases e
theorem RepL.bools : ∀ {vs : List V} {ds : List D} {ns : List Bool}, RepL A H vs ds → boolsD ds = some ns → vs = ns.map V.bl
  | _, _, _, .nil, e => by cases e; rfl
  | _, _, _, .cons (x := .bool i) (xs := xs) h t, e => by
    cases h
    have e' : (boolsD xs).map (i :: ·) = some _ := e
    cases q : boolsD xs with
    | none => rw [q] at e'; cases e'
    | some m =>
      rw [q] at e'; cases e'
      rw [List.map_cons, ← RepL.bools t q]
  | _, _, _, .cons (x := .none) _ _, e => by cases e
  | _, _, _, .cons (x := .int _) _ _, e => by cases e
  | _, _, _, .cons (x := .str _) _ _, e => by cases e
  | _, _, _, .cons (x := .list _) _ _, e => by cases e
  | _, _, _, .cons (x := .tuple _) _ _, e => by cases e
  | _, _, _, .cons (x := .dict _) _ _, e => by cases e
theorem RepL.of_ints : ∀ (ns : List Int), RepL A H (ns.map V.int) (ns.map PyData.int)
  | [] => .nil
  | n :: r => .cons (.int n) (RepL.of_ints r)
end

/-- A with one address more -/
def And1 (A : Addr → Prop) (p : Addr) : Addr → Prop := fun q => A q ∨ q = p
/-- a value has come: the heap grew at most -/
def NewV (A : Addr → Prop) (H H' : Hp) (v : V) (z : D) (fr : Bool) : Prop := (∀ p o, H p = some o → H' p = some o) ∧ match fr with
  | false => Rep A H' v z
  | true => ∃ p, v = .ref p ∧ H p = none ∧ ¬ A p ∧ ObD (And1 A p) H' p z
/-- no thing 0, a tuple 1, any other 2: it never falls -/
def lvl : Option HO → Nat
  | none => 0
  | some (.tup _) => 1
  | some _ => 2
theorem lvl_none {x : Option HO} (h : lvl x = 0) : x = none := by
  cases x with
  | none => rfl
  | some o => cases o <;> cases h
theorem lvl_le (x : Option HO) : lvl x ≤ 2 := by
  cases x with
  | none => exact Nat.zero_le 2
  | some o => cases o <;> first | exact Nat.le_refl 2 | exact (by decide : 1 ≤ 2)
theorem ObRep.lvl {A : Addr → Prop} {H : Hp} {p : Addr} {o : Ob} (h : ObRep A H p o) : Ev.lvl (H p) = 2 := by
  cases o <;> (obtain ⟨_, e, _⟩ := h; rw [e]; rfl)
theorem lvl_ne {x : Option HO} (h : 1 ≤ lvl x) : x ≠ none := fun z => by rw [z] at h; cases h
def Allo (A : Addr → Prop) (H : Hp) : Prop := ∀ p, A p → 2 ≤ lvl (H p)
section
variable {A : Addr → Prop} {H : Hp}
theorem Allo.ne (a : Allo A H) {p : Addr} (h : A p) : H p ≠ none := lvl_ne (Nat.le_trans (by decide) (a p h))
theorem Allo.nt (a : Allo A H) {p : Addr} {vs : List V} (hp : H p = some (.tup vs)) : ¬ A p := fun h => by
  have := a p h
  rw [hp] at this
  exact absurd this (by show ¬ (2 ≤ 1); decide)
theorem lvl_grow {H' : Hp} (g : ∀ p o, H p = some o → H' p = some o) (p : Addr) : lvl (H p) ≤ lvl (H' p) := by
  cases q : H p with
  | none => exact Nat.zero_le _
  | some o => rw [g p o q]; exact Nat.le_refl _
theorem NewV.here {v : V} {z : D} (h : Rep A H v z) : NewV A H H v z false := ⟨fun _ _ e => e, h⟩
theorem grow {p : Addr} {o : HO} (hp : H p = none) : ∀ q u, H q = some u → upd H p o q = some u := fun q u e => by
  rw [upd_ne (ne_of_none e hp)]; exact e
theorem Allo.na (a : Allo A H) {p : Addr} (hp : H p = none) : ¬ A p := fun h => a.ne h hp
theorem RepL.grow {p : Addr} {o : HO} {vs : List V} {xs : List D} (r : RepL A H vs xs) (hp : H p = none) : RepL A (upd H p o) vs xs := r.step (fun q u e _ => Ev.grow hp q u e) fun q h => .inl h
theorem NewV.lst {p : Addr} {vs : List V} {xs : List D} (a : Allo A H) (hp : H p = none) (r : RepL A H vs xs) : NewV A H (upd H p (.lst vs)) (.ref p) (.list xs) true :=
  ⟨Ev.grow hp, p, rfl, hp, a.na hp, vs, upd_same, r.step (fun q u e _ => Ev.grow hp q u e) fun q h => h.elim .inl fun e => .inr (e ▸ hp)⟩
theorem NewV.tup {p : Addr} {vs : List V} {xs : List D} (a : Allo A H) (hp : H p = none) (r : RepL A H vs xs) : NewV A H (upd H p (.tup vs)) (.ref p) (.tuple xs) false :=
  ⟨Ev.grow hp, .tup (a.na hp) upd_same (r.grow hp)⟩
theorem line_eq : line = sizeLine := by rw [sizeLine_eq]; rfl
end

def opr : Op2 → Operator
  | .add => .Add
  | .sub => .Sub
  | .mul => .Mult
  | .fdiv => .FloorDiv
  | .mod => .Mod
  | .pow => .Pow
  | .xor => .BitXor
  | .band => .BitAnd
  | .shl => .LShift
  | .shr => .RShift
/-- the reading of an operation on data -/
def rD2 (f : D → D → Option (D × Bool)) : R2 := fun x y H Q => ∃ A a b z fr, Allo A H ∧ RepB A H x a ∧ RepB A H y b ∧ f a b = some (z, fr) ∧ ∀ v H', NewV A H H' v z fr → Q v H'
section
variable {X : Cx}
theorem OpR.imp {f : Value → Value → PySem.Sem Value} {r r' : R2} (h : OpR X f r) (k : ∀ x y H Q, r' x y H Q → r x y H Q) : OpR X f r' := fun pins s σ H x y v u Q I rx ry q => h pins s σ H x y v u Q I rx ry (k _ _ _ _ q)
theorem small_of {i : Int} (h : smallI i = true) : -(2 ^ 64) < i ∧ i < 2 ^ 64 := by
  have h := of_decide_eq_true h
  omega
theorem pow300 : (2 ^ 300 : Nat) = (2 ^ 300 : Int).toNat := by decide +kernel
/-- ints alone -/
theorem rD2_int {f : D → D → Option (D × Bool)} {C : Int → Int → Prop} {g : Int → Int → Int} (hf : ∀ a b z fr, f a b = some (z, fr) → ∃ i j, a = .int i ∧ b = .int j ∧ C i j ∧ z = .int (g i j) ∧ fr = false) :
    ∀ x y H Q, rD2 f x y H Q → rI C (fun i j => .int (g i j)) x y H Q := by
  intro x y H Q h
  obtain ⟨A, a, b, z, fr, al, ra, rb, e, q⟩ := h
  obtain ⟨i, j, rfl, rfl, c, rfl, rfl⟩ := hf a b z fr e
  exact ⟨i, j, ra, rb, c, q _ _ (.here (.int _))⟩
theorem op2_sub : OpR X (binaryOp .Sub) (rD2 (op2D .sub)) := by
  refine OpR.imp op_sub fun x y H Q h => ?_
  obtain ⟨i, j, h1, h2, _, q⟩ := rD2_int (C := fun _ _ => True) (g := fun i j => i - j) (fun a b z fr e => by
    cases a <;> cases b <;> first | (cases e; exact ⟨_, _, rfl, rfl, trivial, rfl, rfl⟩) | cases e) x y H Q h
  exact ⟨i, j, h1, h2, q⟩
theorem op2_xor : OpR X (binaryOp .BitXor) (rD2 (op2D .xor)) := by
  refine OpR.imp op_xor fun x y H Q h => ?_
  obtain ⟨i, j, h1, h2, _, q⟩ := rD2_int (C := fun _ _ => True) (g := fun i j => Builtin.bitXor i j) (fun a b z fr e => by
    cases a <;> cases b <;> first | (cases e; exact ⟨_, _, rfl, rfl, trivial, rfl, rfl⟩) | cases e) x y H Q h
  exact ⟨i, j, h1, h2, q⟩
theorem op2_band : OpR X (binaryOp .BitAnd) (rD2 (op2D .band)) := by
  refine OpR.imp op_and fun x y H Q h => ?_
  obtain ⟨i, j, h1, h2, _, q⟩ := rD2_int (C := fun _ _ => True) (g := fun i j => Builtin.bitAnd i j) (fun a b z fr e => by
    cases a <;> cases b <;> first | (cases e; exact ⟨_, _, rfl, rfl, trivial, rfl, rfl⟩) | cases e) x y H Q h
  exact ⟨i, j, h1, h2, q⟩
theorem op2_fdiv : OpR X (binaryOp .FloorDiv) (rD2 (op2D .fdiv)) := by
  refine OpR.imp op_fdivW (rD2_int fun a b z fr e => ?_)
  cases a <;> cases b <;> try (cases e; done)
  rename_i i j
  have e' : (if decide (0 < j) && decide (j.natAbs < 2 ^ 300) then some (PyData.int (i / j), false) else none) = some (z, fr) := e
  split at e'
  · rename_i c
    rw [Bool.and_eq_true] at c
    cases e'
    have c1 : 0 < j := of_decide_eq_true c.1
    have c2 : j.natAbs < 2 ^ 300 := of_decide_eq_true c.2
    exact ⟨i, j, rfl, rfl, wide_div (b := 300) c1 c2 (by decide) (by decide), rfl, rfl⟩
  · cases e'
theorem op2_mod : OpR X (binaryOp .Mod) (rD2 (op2D .mod)) := by
  refine OpR.imp op_mod (rD2_int fun a b z fr e => ?_)
  cases a <;> cases b <;> try (cases e; done)
  rename_i i j
  have e' : (if decide (0 < j) then some (PyData.int (i % j), false) else none) = some (z, fr) := e
  split at e'
  · rename_i c
    cases e'
    exact ⟨i, j, rfl, rfl, of_decide_eq_true c, rfl, rfl⟩
  · cases e'
theorem op2_pow : OpR X (binaryOp .Pow) (rD2 (op2D .pow)) := by
  refine OpR.imp op_pow (rD2_int fun a b z fr e => ?_)
  cases a <;> cases b <;> try (cases e; done)
  rename_i i j
  have e' : (if decide (0 ≤ j) && decide (j.natAbs ≤ 1000000) && decide (i.natAbs < 2 ^ 64) then some (PyData.int (i ^ j.toNat), false) else none) = some (z, fr) := e
  split at e'
  · rename_i c
    rw [Bool.and_eq_true, Bool.and_eq_true] at c
    cases e'
    exact ⟨i, j, rfl, rfl, ⟨of_decide_eq_true c.1.1, (by have c1 : 0 ≤ j := of_decide_eq_true c.1.1; have c2 := of_decide_eq_true c.1.2; omega), of_decide_eq_true c.2⟩, rfl, rfl⟩
  · cases e'
theorem op2_shl : OpR X (binaryOp .LShift) (rD2 (op2D .shl)) := by
  refine OpR.imp op_shl (rD2_int fun a b z fr e => ?_)
  cases a <;> cases b <;> try (cases e; done)
  rename_i i j
  have e' : (if decide (0 ≤ j) && decide (j.natAbs ≤ 1000000) && decide (i.natAbs < 2 ^ 64) then some (PyData.int (i * 2 ^ j.toNat), false) else none) = some (z, fr) := e
  split at e'
  · rename_i c
    rw [Bool.and_eq_true, Bool.and_eq_true] at c
    cases e'
    exact ⟨i, j, rfl, rfl, ⟨of_decide_eq_true c.1.1, (by have c1 : 0 ≤ j := of_decide_eq_true c.1.1; have c2 := of_decide_eq_true c.1.2; omega), of_decide_eq_true c.2⟩, rfl, rfl⟩
  · cases e'
theorem op2_shr : OpR X (binaryOp .RShift) (rD2 (op2D .shr)) := by
  refine OpR.imp op_shr (rD2_int fun a b z fr e => ?_)
  cases a <;> cases b <;> try (cases e; done)
  rename_i i j
  have e' : (if decide (0 ≤ j) then some (PyData.int (i / 2 ^ j.toNat), false) else none) = some (z, fr) := e
  split at e'
  · rename_i c
    cases e'
    exact ⟨i, j, rfl, rfl, of_decide_eq_true c, rfl, rfl⟩
  · cases e'
/-- a tuple once is itself -/
theorem tuple_mul1 (l : Addr) (items : Array Value) (n : Nat) (dd : Option Addr) (sl : Array (Option Value)) (u : Tok) :
    Meets (Builtin.«tuple.__mul__» ⟨[.ref l, .int 1 u], []⟩) (fun _ R s => s.heap.get? l = some { cls := .type "tuple", dict := dd, data := .seq items n, slots := sl } ∧ R (.ok (.ret (Value.ref l))) { s with toks := s.toks }) :=
  .of_wp fun prog w A R s h => by
    obtain ⟨hp, g, d, tk, os⟩ := s
    obtain ⟨hl, h⟩ := h
    have f1 := AutoSeq1.idx_int
    wp_walk using wpAny_loadPart' hl
    exact ⟨_, rfl, h⟩
theorem op_repT1 : OpR X (binaryOp .Mult) (fun x y H Q => ∃ l xs, x = .ref l ∧ y = .int 1 ∧ SqT X.K H l xs ∧ Q (.ref l) H) := by
  intro pins s σ H x y v u Q I rx ry h
  obtain ⟨l, xs, rfl, rfl, hT, q⟩ := h
  cases rx
  obtain ⟨t, rfl⟩ := ry
  obtain ⟨its, r, ⟨⟨cls, dd, data, sl⟩, ho, hc, n, hd⟩, hs⟩ := I.tuple hT
  simp only at hc hd
  subst hc hd
  refine wpAny_binaryOp_repeat_ref (T := "tuple") (U := "int") (by decide) ⟨_, ho, rfl⟩ (fun s' => typeIs_int s' 1 t) noFill_tuple_mul F.fills_int_mul F.slot_int_rmul repeat_tuple F.slot_int_index.lookup
    (call_meets F.slot_int_rmul (typeIs_int s 1 t) F.entry_int_rmul (F.args_int_rmul_2 _ _) (int_rmul_tuple 1 t l its.toArray n dd sl)
      ⟨ho, rfl, ⟨_, ho, rfl⟩, call_meets F.slot_tuple_mul ⟨_, ho, rfl⟩ F.entry_tuple_mul (F.args_tuple_mul_2 _ _) (tuple_mul1 l its.toArray n dd sl t) ⟨ho, ?_⟩⟩)
  exact ⟨.ref l, H, I, rfl, q⟩
theorem op2_mul : OpR X (binaryOp .Mult) (rD2 (op2D .mul)) := by
  refine OpR.imp (OpR.or (OpR.or op_mul op_rep) (OpR.or op_repT op_repT1)) fun x y H Q h => ?_
  obtain ⟨A, a, b, z, fr, al, ra, rb, e, q⟩ := h
  cases a <;> cases b <;> try (cases e; done)
  · rename_i i j
    have e' : (if smallI i || smallI j then some (PyData.int (i * j), false) else none) = some (z, fr) := e
    split at e'
    · rename_i c
      rw [Bool.or_eq_true] at c
      cases e'
      exact .inl (.inl ⟨i, j, ra, rb, c.imp small_of small_of, q _ _ (.here (.int _))⟩)
    · cases e'
  · rename_i xs k
    have e' : (if decide (0 ≤ k) && decide (k.natAbs ≤ line) && decide (xs.length * k.toNat ≤ line) then some (PyData.list (List.replicate k.toNat xs).flatten, true) else none) = some (z, fr) := e
    split at e'
    · rename_i c
      rw [Bool.and_eq_true, Bool.and_eq_true] at c
      cases e'
      obtain ⟨p, vs, rfl, hp, r⟩ := ra
      have c1 : 0 ≤ k := of_decide_eq_true c.1.1
      have c2' : k.natAbs ≤ line := of_decide_eq_true c.1.2
      have c2 : k ≤ (line : Int) := by omega
      have c3 : xs.length * k.toNat ≤ line := of_decide_eq_true c.2
      have hl : (line : Int) = 16777216 := rfl
      exact .inl (.inr ⟨p, k, vs, rfl, rb, hp, by omega, by omega, by rw [r.length, ← line_eq]; exact c3, fun d hd => q _ _ (.lst al hd (r.rep _))⟩)
    · cases e'
  · rename_i xs k
    have e' : (if !xs.isEmpty && decide (1 ≤ k) && decide (k.natAbs ≤ 1000) && decide (xs.length ≤ 1000) then some (PyData.tuple (List.replicate k.toNat xs).flatten, false) else none) = some (z, fr) := e
    split at e'
    · rename_i c
      rw [Bool.and_eq_true, Bool.and_eq_true, Bool.and_eq_true] at c
      cases e'
      obtain ⟨p, vs, rfl, na, hp, r⟩ := ra
      obtain ⟨⟨⟨c0, c1⟩, c2⟩, c3⟩ := c
      have c1 : 1 ≤ k := of_decide_eq_true c1
      have c2 : k.natAbs ≤ 1000 := of_decide_eq_true c2
      have c3 : xs.length ≤ 1000 := of_decide_eq_true c3
      by_cases hk : k = 1
      · subst hk
        refine .inr (.inr ⟨p, vs, rfl, rb, .of hp, q _ _ (.here ?_)⟩)
        have e1 : (List.replicate (1 : Int).toNat xs).flatten = xs := by simp
        rw [e1]
        exact .tup na hp r
      · refine .inr (.inl ⟨p, k, vs, rfl, rb, .of hp, fun e => ?_, by omega, by omega, by rw [r.length]; exact c3, fun d hd => q _ _ (.tup al hd (r.rep _))⟩)
        subst e
        cases r
        cases c0
    · cases e'
theorem op2_add : OpR X (binaryOp .Add) (rD2 (op2D .add)) := by
  refine OpR.imp (OpR.or (OpR.or op_add op_add_str) (OpR.or op_catA op_cat)) fun x y H Q h => ?_
  obtain ⟨A, a, b, z, fr, al, ra, rb, e, q⟩ := h
  cases a <;> cases b <;> try (cases e; done)
  · rename_i i j
    cases e
    exact .inl (.inl ⟨i, j, ra, rb, q _ _ (.here (.int _))⟩)
  · rename_i i j
    have e' : (if i.length + j.length ≤ line then some (PyData.str (i ++ j), false) else none) = some (z, fr) := e
    split at e'
    · rename_i c
      cases e'
      exact .inl (.inr ⟨i, j, ra, rb, by rw [← line_eq]; exact c, q _ _ (.here (.str _))⟩)
    · cases e'
  · rename_i xs ys
    have e' : (if xs.length + ys.length ≤ line then some (PyData.list (xs ++ ys), true) else none) = some (z, fr) := e
    split at e'
    · rename_i c
      cases e'
      obtain ⟨p, vs, rfl, hp, r⟩ := ra
      obtain ⟨p2, vs2, rfl, hp2, r2⟩ := rb
      exact .inr (.inr ⟨p, p2, vs, vs2, rfl, rfl, hp, hp2, by rw [r.length, r2.length, ← line_eq]; exact c, fun d hd => q _ _ (.lst al hd (r.append r2))⟩)
    · cases e'
  · rename_i xs ys
    have e' : (if xs.length + ys.length ≤ line then some (PyData.tuple (xs ++ ys), false) else none) = some (z, fr) := e
    split at e'
    · rename_i c
      cases e'
      obtain ⟨p, vs, rfl, na, hp, r⟩ := ra
      obtain ⟨p2, vs2, rfl, na2, hp2, r2⟩ := rb
      refine .inr (.inl ⟨p, p2, vs, vs2, rfl, rfl, .of hp, .of hp2, by rw [r.length, r2.length, ← line_eq]; exact c, fun z => ?_, fun _ z => ?_, fun _ _ d hd => q _ _ (.tup al hd (r.append r2))⟩)
      · subst z
        cases r
        exact q _ _ (.here (.tup na2 hp2 r2))
      · subst z
        cases r2
        rw [List.append_nil] at q
        exact q _ _ (.here (.tup na hp r))
    · cases e'
theorem op2_ok : ∀ o : Op2, OpR X (binaryOp (opr o)) (rD2 (op2D o))
  | .add => op2_add
  | .sub => op2_sub
  | .mul => op2_mul
  | .fdiv => op2_fdiv
  | .mod => op2_mod
  | .pow => op2_pow
  | .xor => op2_xor
  | .band => op2_band
  | .shl => op2_shl
  | .shr => op2_shr
end
end Ev
/-! Comparisons, truth. -/
namespace Ev
open PySem PySem.Spec PyProof.Rows L2

section
variable {K : PySem.W.Frag} {A : Addr → Prop} {H : Hp}
mutual
theorem Rep.dp : ∀ {v : V} {d : D}, Rep A H v d → d.canLay0 = true → Dp K H v d
  | _, _, .non, _ => .non
  | _, _, .bl b, _ => .bl b
  | _, _, .int i, _ => .int i
  | _, _, .str x, _ => .str x
  | _, _, .lst na e r, c => .lst (.of e) (RepL.dp r c)
  | _, _, .tup na e r, c => .tup (.of e) (RepL.dp r c)
  | _, _, .dct na e r, c => by simp [PyData.canLay0] at c
theorem RepL.dp : ∀ {vs : List V} {ds : List D}, RepL A H vs ds → PyData.canLayAll0 ds = true → DpAll K H vs ds
  | _, _, .nil, _ => .nil
  | _, _, .cons h t, c => by
    simp only [PyData.canLayAll0, Bool.and_eq_true] at c
    exact .cons (Rep.dp h c.1) (RepL.dp t c.2)
end
theorem RepB.dp {v : V} : ∀ {d : D}, RepB A H v d → SeqAt.shaped d = true → Dp K H v d
  | .none, h, _ => by cases h; exact .non
  | .bool b, h, _ => by cases h; exact .bl b
  | .int i, h, _ => by cases h; exact .int i
  | .str x, h, _ => by cases h; exact .str x
  | .list xs, ⟨p, vs, e, h, r⟩, c => by subst e; exact .lst (.of h) (r.dp (SeqAt.canLay_of_shaped c))
  | .tuple xs, ⟨p, vs, e, na, h, r⟩, c => by subst e; exact .tup (.of h) (r.dp (SeqAt.canLay_of_shaped c))
  | .dict _, _, c => by
    have c' := SeqAt.canLay_of_shaped c
    simp [PyData.canLay0] at c'
theorem RepR.dpL {v : V} {xs : List D} (h : RepR K A H v (.list xs)) (c : SeqAt.shaped (.list xs) = true) : Dp K H v (.list xs) := by
  rcases h with h | ⟨p, vs, e, h, r⟩
  · exact h.dp c
  · subst e
    exact .lst h (r.dp (SeqAt.canLay_of_shaped c))
theorem RepR.dpT {v : V} {xs : List D} (h : RepR K A H v (.tuple xs)) (c : SeqAt.shaped (.tuple xs) = true) : Dp K H v (.tuple xs) := by
  rcases h with h | ⟨p, vs, e, h, r⟩
  · exact h.dp c
  · subst e
    exact .tup h (r.dp (SeqAt.canLay_of_shaped c))
end

def cpo : Cp → CmpOp
  | .eq => .Eq
  | .ne => .NotEq
  | .lt => .Lt
  | .le => .LtE
  | .gt => .Gt
  | .ge => .GtE
  | .isN => .Is
  | .notN => .IsNot
  | .isB => .Is
  | .notB => .IsNot
  | .inS => .In
  | .ninS => .NotIn
  | .inD => .In
  | .ninD => .NotIn
  | .inT => .In
  | .ninT => .NotIn
/-- does the comparison take a right side that is the module's -/
def cpR : Cp → Bool
  | .inT => true
  | .ninT => true
  | _ => false
def RepX (K : PySem.W.Frag) (b : Bool) (A : Addr → Prop) (H : Hp) (v : V) (d : D) : Prop := match b with
  | true => RepR K A H v d
  | false => RepB A H v d
def rCp (K : PySem.W.Frag) (c : Cp) : R2 := fun x y H Q => ∃ A a b k, Allo A H ∧ RepB A H x a ∧ RepX K (cpR c) A H y b ∧ cpD c a b = some k ∧ Q (.bl k) H

theorem lexAt_of (r : Int → Int → Bool) (zf : Nat → Nat → Bool) (f : List Int → List Int → Bool) (h00 : f [] [] = zf 0 0) (h0s : ∀ m ms, f [] (m :: ms) = zf 0 (ms.length + 1)) (hs0 : ∀ n ns, f (n :: ns) [] = zf (ns.length + 1) 0)
    (hss : ∀ n ns m ms, f (n :: ns) (m :: ms) = if n = m then f ns ms else r n m) (hz : ∀ a b, zf (a + 1) (b + 1) = zf a b) (ns ms : List Int) :
    Ob.lexAt (fun j => decide ((ns.getD j 0) = (ms.getD j 0))) (fun j => r (ns.getD j 0) (ms.getD j 0)) (zf ns.length ms.length) 0 (min ns.length ms.length) = f ns ms := by
  have key : ∀ (ns ms pn pm : List Int), pn.length = pm.length →
      Ob.lexAt (fun j => decide (((pn ++ ns).getD j 0) = ((pm ++ ms).getD j 0))) (fun j => r ((pn ++ ns).getD j 0) ((pm ++ ms).getD j 0)) (zf ns.length ms.length) pn.length (min ns.length ms.length) = f ns ms := by
    intro ns
    induction ns with
    | nil =>
      intro ms pn pm h
      cases ms with
      | nil => rw [h00]; rfl
      | cons m ms => rw [h0s]; simp [Ob.lexAt]
    | cons n ns ih =>
      intro ms pn pm h
      cases ms with
      | nil => rw [hs0]; simp [Ob.lexAt]
      | cons m ms =>
        have e1 : (pn ++ n :: ns).getD pn.length 0 = n := by simp
        have e2 : (pm ++ m :: ms).getD pn.length 0 = m := by rw [h]; simp
        rw [List.length_cons, List.length_cons, Nat.succ_min_succ, Ob.lexAt_succ, e1, e2, hss, hz]
        have ih' := ih ms (pn ++ [n]) (pm ++ [m]) (by simp [h])
        simp only [List.append_assoc, List.singleton_append, List.length_append, List.length_cons, List.length_nil] at ih'
        by_cases e : n = m
        · rw [if_pos (decide_eq_true e), if_pos e, ← ih']
        · rw [if_neg (by simp [e]), if_neg e]
  exact key ns ms [] [] rfl
theorem ltI_cons (x : Int) (xs : List Int) (y : Int) (ys : List Int) : ltI (x :: xs) (y :: ys) = if x = y then ltI xs ys else decide (x < y) := rfl
theorem ltI_lex : ∀ ns ms : List Int, HT.lexLt ns ms = ltI ns ms
  | [], [] => rfl
  | [], _ :: _ => rfl
  | _ :: _, [] => rfl
  | x :: xs, y :: ys => by rw [HT.lexLt_cons, ltI_cons, ltI_lex xs ys]
theorem lex_le (ns ms : List Int) : Ob.lexAt (fun j => decide ((ns.getD j 0) = (ms.getD j 0))) (fun j => decide ((ns.getD j 0) ≤ (ms.getD j 0))) (decide (ns.length ≤ ms.length)) 0 (min ns.length ms.length) = !ltI ms ns := by
  refine lexAt_of (fun a b => decide (a ≤ b)) (fun a b => decide (a ≤ b)) (fun a b => !ltI b a) rfl (fun m ms => by simp [ltI]) (fun n ns => by simp [ltI]) (fun n ns m ms => ?_) (fun a b => by simp) ns ms
  rw [ltI_cons]
  by_cases e : n = m
  · rw [if_pos e, if_pos e.symm]
  · rw [if_neg e, if_neg (Ne.symm e), Bool.eq_iff_iff]
    simp
theorem lex_ge (ns ms : List Int) : Ob.lexAt (fun j => decide ((ns.getD j 0) = (ms.getD j 0))) (fun j => decide ((ms.getD j 0) ≤ (ns.getD j 0))) (decide (ns.length ≥ ms.length)) 0 (min ns.length ms.length) = !ltI ns ms := by
  refine lexAt_of (fun a b => decide (b ≤ a)) (fun a b => decide (a ≥ b)) (fun a b => !ltI a b) rfl (fun m ms => by simp [ltI]) (fun n ns => by simp [ltI]) (fun n ns m ms => ?_) (fun a b => by simp) ns ms
  rw [ltI_cons]
  by_cases e : n = m
  · rw [if_pos e, if_pos e]
  · rw [if_neg e, if_neg e, Bool.eq_iff_iff]
    simp
def rGeT (K : PySem.W.Frag) : R2 := fun x y H Q => ∃ (a b : Addr) (ns ms : List Int), x = .ref a ∧ y = .ref b ∧ SqT K H a (ns.map V.int) ∧ SqT K H b (ms.map V.int) ∧
  Q (.bl (Ob.lexAt (fun j => decide (ns.getD j 0 = ms.getD j 0)) (fun j => decide (ms.getD j 0 ≤ ns.getD j 0)) (decide (ns.length ≥ ms.length)) 0 (min ns.length ms.length))) H
theorem op_geT {X : Cx} (hu : X.A.units < cLine) : OpR X (compareOp .GtE) (rGeT X.K) := by
  intro pins s σ H x y v u Q I rx ry h
  obtain ⟨a, b, ns, ms, rfl, rfl, ha, hb, q⟩ := h
  cases rx
  cases ry
  obtain ⟨its, r1, p1, _⟩ := I.tuple ha
  obtain ⟨its2, r2, p2, _⟩ := I.tuple hb
  have i1 : IntsAre its ns := Vals.ints r1
  have i2 : IntsAre its2 ms := Vals.ints r2
  have e1 : its.toArray.size = ns.length := by rw [List.size_toArray]; exact i1.length
  have e2 : its2.toArray.size = ms.length := by rw [List.size_toArray]; exact i2.length
  have at1 : ∀ j (h1 : j < its.toArray.size), ∃ t, its.toArray[j] = .int (ns.getD j 0) t := fun j h1 => PyProof.Rows.IntsAre.int_at i1 _ _ (by simp at h1; simp [h1])
  have at2 : ∀ j (h1 : j < its2.toArray.size), ∃ t, its2.toArray[j] = .int (ms.getD j 0) t := fun j h1 => PyProof.Rows.IntsAre.int_at i2 _ _ (by simp at h1; simp [h1])
  have R := Ob.RcOp.tuples_ge (A := X.A) (s := s) (e := fun j => decide (ns.getD j 0 = ms.getD j 0)) (r := fun j => decide (ms.getD j 0 ≤ ns.getD j 0)) p1 p2 hu (fun j h1 h2 => by
    obtain ⟨t, et⟩ := at1 j h1
    obtain ⟨t', et'⟩ := at2 j h2
    rw [et, et']
    have z : (ns.getD j 0 == ms.getD j 0) = decide (ns.getD j 0 = ms.getD j 0) := by
      by_cases q : ns.getD j 0 = ms.getD j 0
      · rw [decide_eq_true q]; exact beq_iff_eq.mpr q
      · rw [decide_eq_false q]; exact beq_eq_false_iff_ne.mpr q
    rw [← z]
    exact SeqAt.EqAt.int_int _ _ _ _) (fun j h1 h2 _ => by
    obtain ⟨t, et⟩ := at1 j h1
    obtain ⟨t', et'⟩ := at2 j h2
    rw [et, et']
    exact Ob.RcOp.ge_int _ _ _ _)
  rw [e1, e2] at R
  have z : wpAny (model X.prog X.w) X.A (compareOp .GtE (.ref a) (.ref b)) (EP X pins σ Q) X.xe s := R X.prog X.w X.xe (EP X pins σ Q) ⟨.bl _, H, I, rfl, q⟩
  exact z

section
variable {X : Cx}
theorem room65 {A : Around} (h : A.units + 65 < cLine) : A.units + 64 < cLine := Nat.lt_trans (by omega) h
/-- ints alone -/
theorem rCp_int {c : Cp} {K : PySem.W.Frag} {g : Int → Int → Bool} (hc : cpR c = false) (hf : ∀ a b k, cpD c a b = some k → ∃ i j, a = .int i ∧ b = .int j ∧ k = g i j) :
    ∀ x y H Q, rCp K c x y H Q → rI0 (fun i j => .bl (g i j)) x y H Q := by
  intro x y H Q h
  obtain ⟨A, a, b, k, al, ra, rb, e, q⟩ := h
  obtain ⟨i, j, rfl, rfl, rfl⟩ := hf a b k e
  rw [hc] at rb
  exact ⟨i, j, ra, rb, q⟩
theorem cp_eq (hu : X.A.units + 65 < cLine) : OpR X (compareOp .Eq) (rCp X.K .eq) := by
  refine OpR.imp (op_eqD (room65 hu)) fun x y H Q h => ?_
  obtain ⟨A, a, b, k, al, ra, rb, e, q⟩ := h
  have e' : (if SeqAt.shaped a && SeqAt.shaped b then some (PyData.eqv a b) else none) = some k := e
  split at e'
  · rename_i c
    rw [Bool.and_eq_true] at c
    cases e'
    exact ⟨a, b, RepB.dp ra c.1, RepB.dp rb c.2, c.1, c.2, q⟩
  · cases e'
theorem cp_ne (hu : X.A.units + 65 < cLine) : OpR X (compareOp .NotEq) (rCp X.K .ne) := by
  refine OpR.imp (op_neD (room65 hu)) fun x y H Q h => ?_
  obtain ⟨A, a, b, k, al, ra, rb, e, q⟩ := h
  have e' : (if SeqAt.shaped a && SeqAt.shaped b then some (!PyData.eqv a b) else none) = some k := e
  split at e'
  · rename_i c
    rw [Bool.and_eq_true] at c
    cases e'
    exact ⟨a, b, RepB.dp ra c.1, RepB.dp rb c.2, c.1, c.2, q⟩
  · cases e'
theorem cp_lt (hu : X.A.units + 65 < cLine) : OpR X (compareOp .Lt) (rCp X.K .lt) := by
  refine OpR.imp (OpR.or op_lt (op_ltT (Nat.lt_of_le_of_lt (Nat.le_add_right _ 65) hu))) fun x y H Q h => ?_
  obtain ⟨A, a, b, k, al, ra, rb, e, q⟩ := h
  cases a <;> cases b <;> try (cases e; done)
  · rename_i i j
    cases e
    exact .inl ⟨i, j, ra, rb, q⟩
  · rename_i xs ys
    obtain ⟨p, vs, rfl, _, hp, r⟩ := ra
    obtain ⟨p2, vs2, rfl, _, hp2, r2⟩ := rb
    have e' : (match intsD xs, intsD ys with
      | some a, some b => some (ltI a b)
      | _, _ => none) = some k := e
    cases e1 : intsD xs with
    | none => rw [e1] at e'; cases e'
    | some ns =>
      cases e2 : intsD ys with
      | none => rw [e1, e2] at e'; cases e'
      | some ms =>
        rw [e1, e2] at e'
        cases e'
        refine .inr ⟨p, p2, ns, ms, rfl, rfl, by rw [← r.ints e1]; exact .of hp, by rw [← r2.ints e2]; exact .of hp2, ?_⟩
        rw [ltI_lex]
        exact q
theorem cp_le (hu : X.A.units + 65 < cLine) : OpR X (compareOp .LtE) (rCp X.K .le) := by
  refine OpR.imp (OpR.or op_le (op_leT (Nat.lt_of_le_of_lt (Nat.le_add_right _ 65) hu))) fun x y H Q h => ?_
  obtain ⟨A, a, b, k, al, ra, rb, e, q⟩ := h
  cases a <;> cases b <;> try (cases e; done)
  · rename_i i j
    cases e
    exact .inl ⟨i, j, ra, rb, q⟩
  · rename_i xs ys
    obtain ⟨p, vs, rfl, _, hp, r⟩ := ra
    obtain ⟨p2, vs2, rfl, _, hp2, r2⟩ := rb
    have e' : (match intsD xs, intsD ys with
      | some a, some b => some (!ltI b a)
      | _, _ => none) = some k := e
    cases e1 : intsD xs with
    | none => rw [e1] at e'; cases e'
    | some ns =>
      cases e2 : intsD ys with
      | none => rw [e1, e2] at e'; cases e'
      | some ms =>
        rw [e1, e2] at e'
        cases e'
        refine .inr ⟨p, p2, ns, ms, rfl, rfl, by rw [← r.ints e1]; exact .of hp, by rw [← r2.ints e2]; exact .of hp2, ?_⟩
        rw [lex_le]
        exact q
theorem cp_gt : OpR X (compareOp .Gt) (rCp X.K .gt) := OpR.imp op_gt (rCp_int rfl fun a b k e => by
  cases a <;> cases b <;> first | (cases e; exact ⟨_, _, rfl, rfl, rfl⟩) | cases e)
theorem cp_ge (hu : X.A.units + 65 < cLine) : OpR X (compareOp .GtE) (rCp X.K .ge) := by
  refine OpR.imp (OpR.or op_ge (op_geT (Nat.lt_of_le_of_lt (Nat.le_add_right _ 65) hu))) fun x y H Q h => ?_
  obtain ⟨A, a, b, k, al, ra, rb, e, q⟩ := h
  cases a <;> cases b <;> try (cases e; done)
  · rename_i i j
    cases e
    exact .inl ⟨i, j, ra, rb, q⟩
  · rename_i xs ys
    obtain ⟨p, vs, rfl, _, hp, r⟩ := ra
    obtain ⟨p2, vs2, rfl, _, hp2, r2⟩ := rb
    have e' : (match intsD xs, intsD ys with
      | some a, some b => some (!ltI a b)
      | _, _ => none) = some k := e
    cases e1 : intsD xs with
    | none => rw [e1] at e'; cases e'
    | some ns =>
      cases e2 : intsD ys with
      | none => rw [e1, e2] at e'; cases e'
      | some ms =>
        rw [e1, e2] at e'
        cases e'
        refine .inr ⟨p, p2, ns, ms, rfl, rfl, by rw [← r.ints e1]; exact .of hp, by rw [← r2.ints e2]; exact .of hp2, ?_⟩
        rw [lex_ge]
        exact q
theorem isN_of {A : Addr → Prop} {H : Hp} {x : V} {a : D} (r : RepB A H x a) : decide (x = .non) = (match a with
    | .none => true
    | _ => false) := by
  cases a with
  | none => cases r; rfl
  | bool b => cases r; rfl
  | int b => cases r; rfl
  | str b => cases r; rfl
  | list b => obtain ⟨p, vs, rfl, _⟩ := r; rfl
  | tuple b => obtain ⟨p, vs, rfl, _⟩ := r; rfl
  | dict b => obtain ⟨p, ws, rfl, _⟩ := r; rfl
theorem cp_isN : OpR X (compareOp .Is) (rCp X.K .isN) := by
  refine OpR.imp op_isN fun x y H Q h => ?_
  obtain ⟨A, a, b, k, al, ra, rb, e, q⟩ := h
  cases b <;> try (cases e; done)
  refine ⟨rb, ?_⟩
  rw [isN_of ra]
  cases a <;> (cases e; exact q)
theorem cp_notN : OpR X (compareOp .IsNot) (rCp X.K .notN) := by
  refine OpR.imp op_notN fun x y H Q h => ?_
  obtain ⟨A, a, b, k, al, ra, rb, e, q⟩ := h
  cases b <;> try (cases e; done)
  refine ⟨rb, ?_⟩
  rw [isN_of ra]
  cases a <;> (cases e; exact q)
theorem cp_isB : OpR X (compareOp .Is) (rCp X.K .isB) := by
  refine OpR.imp op_isBl fun x y H Q h => ?_
  obtain ⟨A, a, b, k, al, ra, rb, e, q⟩ := h
  cases a <;> cases b <;> try (cases e; done)
  rename_i i j
  cases e
  refine ⟨i, j, ra, rb, ?_⟩
  rw [← Bool.beq_eq_decide_eq]
  exact q
theorem cp_notB : OpR X (compareOp .IsNot) (rCp X.K .notB) := by
  refine OpR.imp op_notBl fun x y H Q h => ?_
  obtain ⟨A, a, b, k, al, ra, rb, e, q⟩ := h
  cases a <;> cases b <;> try (cases e; done)
  rename_i i j
  cases e
  refine ⟨i, j, ra, rb, ?_⟩
  rw [← Bool.beq_eq_decide_eq]
  exact q
theorem cp_inS (hu : X.A.units + 65 < cLine) : OpR X (compareOp .In) (rCp X.K .inS) := by
  refine OpR.imp (op_inD hu) fun x y H Q h => ?_
  obtain ⟨A, a, b, k, al, ra, rb, e, q⟩ := h
  cases b <;> try (cases e; done)
  rename_i ys
  have e' : (if SeqAt.shaped a && SeqAt.shaped (.list ys) then some (inL a ys) else none) = some k := e
  split at e'
  · rename_i c
    rw [Bool.and_eq_true] at c
    cases e'
    exact ⟨a, ys, RepB.dp ra c.1, RepB.dp rb c.2, c.1, c.2, q⟩
  · cases e'
theorem cp_ninS (hu : X.A.units + 65 < cLine) : OpR X (compareOp .NotIn) (rCp X.K .ninS) := by
  refine OpR.imp (op_notInD hu) fun x y H Q h => ?_
  obtain ⟨A, a, b, k, al, ra, rb, e, q⟩ := h
  cases b <;> try (cases e; done)
  rename_i ys
  have e' : (if SeqAt.shaped a && SeqAt.shaped (.list ys) then some (!inL a ys) else none) = some k := e
  split at e'
  · rename_i c
    rw [Bool.and_eq_true] at c
    cases e'
    exact ⟨a, ys, RepB.dp ra c.1, RepB.dp rb c.2, c.1, c.2, q⟩
  · cases e'
/-! ### dicts -/
theorem sameD_key (a k : Key) : sameD (keyDt a) (keyDt k) = decide (a = k) := by
  cases a <;> cases k <;> simp [keyDt, sameD] <;> exact Bool.beq_eq_decide_eq _ _
inductive RepO (A : Addr → Prop) (H : Hp) : Option V → Option D → Prop
  | none : RepO A H none none
  | some {v : V} {d : D} (h : Rep A H v d) : RepO A H (some v) (some d)
theorem RepO.isSome {A : Addr → Prop} {H : Hp} {o : Option V} {d : Option D} (h : RepO A H o d) : o.isSome = d.isSome := by cases h <;> rfl
theorem RepK.find {A : Addr → Prop} {H : Hp} (k : Key) : ∀ {ws : List (Key × V)} {kvs : List (D × D)}, RepK A H ws kvs → RepO A H (valV ws k) (dfind (keyDt k) kvs)
  | _, _, .nil => .none
  | _, _, .cons (k := a) (v := v) (ws := ws) (x := x) (kvs := kvs) h t => by
    show RepO A H (valV ((a, v) :: ws) k) (if sameD (keyDt a) (keyDt k) then some x else dfind (keyDt k) kvs)
    rw [sameD_key]
    by_cases e : a = k
    · rw [valV_pos (p := (a, v)) e, if_pos (by simp [e])]
      exact .some h
    · rw [valV_neg (p := (a, v)) e, if_neg (by simp [e])]
      exact RepK.find k t
theorem key_of_isKey {A : Addr → Prop} {H : Hp} {x : V} {d : D} (h : isKey d = true) (r : RepB A H x d) : ∃ k, d = keyDt k ∧ x = kV k := by
  cases d with
  | int i => cases r; exact ⟨.inl i, rfl, rfl⟩
  | str i => cases r; exact ⟨.inr i, rfl, rfl⟩
  | _ => cases h
/-- an item of a dict, by values -/
theorem dget_of {A : Addr → Prop} {H : Hp} {x y : V} {k : D} {kvs : List (D × D)} (h : isKey k = true) (rx : RepB A H x k) (ry : RepB A H y (.dict kvs)) : ∃ p o, y = .ref p ∧ DGet H p x o ∧ RepO A H o (dfind k kvs) := by
  obtain ⟨key, rfl, rfl⟩ := key_of_isKey h rx
  obtain ⟨p, ws, rfl, hp, r⟩ := ry
  exact ⟨p, _, rfl, .k hp, r.find key⟩
theorem room1 {A : Around} (h : A.units + 65 < cLine) : A.units + 1 < cLine := Nat.lt_of_le_of_lt (Nat.add_le_add_left (by decide) _) h
theorem cp_inD (hu : X.A.units + 65 < cLine) : OpR X (compareOp .In) (rCp X.K .inD) := by
  intro pins s σ H x y v u Q I rx ry h
  obtain ⟨A, a, b, k, al, ra, rb, e, q⟩ := h
  cases b <;> try (cases e; done)
  rename_i kvs
  have e' : (if isKey a then some (dfind a kvs).isSome else none) = some k := e
  split at e'
  · rename_i c
    cases e'
    obtain ⟨p, o, rfl, g, ro⟩ := dget_of c ra rb
    cases ry
    refine d_in (room1 hu) I g rx fun s' J => ⟨.bl _, H, J, rfl, ?_⟩
    rw [ro.isSome]
    exact q
  · cases e'
theorem cp_ninD (hu : X.A.units + 65 < cLine) : OpR X (compareOp .NotIn) (rCp X.K .ninD) := by
  intro pins s σ H x y v u Q I rx ry h
  obtain ⟨A, a, b, k, al, ra, rb, e, q⟩ := h
  cases b <;> try (cases e; done)
  rename_i kvs
  have e' : (if isKey a then some (!(dfind a kvs).isSome) else none) = some k := e
  split at e'
  · rename_i c
    cases e'
    obtain ⟨p, o, rfl, g, ro⟩ := dget_of c ra rb
    cases ry
    refine d_notIn (room1 hu) I g rx fun s' J => ⟨.bl _, H, J, rfl, ?_⟩
    rw [ro.isSome]
    exact q
  · cases e'
theorem room_in_shapedT {A : Around} {d : PyData} {ds : List PyData} (h : SeqAt.shaped d = true) (hu : A.units + 65 < cLine) : A.units + 1 + min (PyData.depthAll ds) d.depth < cLine := by
  have h1 := SeqAt.depth_of_shaped h
  have h2 : min (PyData.depthAll ds) d.depth ≤ d.depth := Nat.min_le_right _ _
  omega
theorem cp_inT (hu : X.A.units + 65 < cLine) : OpR X (compareOp .In) (rCp X.K .inT) := by
  intro pins s σ H x y v u Q I rx ry h
  obtain ⟨A, a, b, k, al, ra, rb, e, q⟩ := h
  cases b <;> try (cases e; done)
  · rename_i ys
    have e' : (if SeqAt.shaped a && SeqAt.shaped (.list ys) then some (inL a ys) else none) = some k := e
    split at e'
    · rename_i c
      rw [Bool.and_eq_true] at c
      cases e'
      exact op_inD hu pins s σ H x y v u Q I rx ry ⟨a, ys, RepB.dp ra c.1, RepR.dpL rb c.2, c.1, c.2, q⟩
    · cases e'
  · rename_i ys
    have e' : (if SeqAt.shaped a && SeqAt.shaped (.tuple ys) then some (inL a ys) else none) = some k := e
    split at e'
    · rename_i c
      rw [Bool.and_eq_true] at c
      cases e'
      obtain ⟨as, r1⟩ := Dp.reads I a x v (RepB.dp ra c.1) rx
      obtain ⟨bs, r2⟩ := Dp.reads I (.tuple ys) y u (RepR.dpT rb c.2) ry
      exact SeqAt.in_tuple_reads r2 r1 (SeqAt.canLay_of_shaped c.2) (SeqAt.canLay_of_shaped c.1) (room_in_shapedT c.1 hu) ⟨.bl _, H, I, rfl, q⟩
    · cases e'
  · rename_i kvs
    have e' : (if isKey a then some ((dfind a kvs).isSome) else none) = some k := e
    split at e'
    · rename_i c
      cases e'
      obtain ⟨p, o, rfl, g, ro⟩ := dget_of c ra (rb.elim id False.elim)
      cases ry
      refine d_in (room1 hu) I g rx fun s' J => ⟨.bl _, H, J, rfl, ?_⟩
      rw [ro.isSome]
      exact q
    · cases e'
theorem cp_ninT (hu : X.A.units + 65 < cLine) : OpR X (compareOp .NotIn) (rCp X.K .ninT) := by
  intro pins s σ H x y v u Q I rx ry h
  obtain ⟨A, a, b, k, al, ra, rb, e, q⟩ := h
  cases b <;> try (cases e; done)
  · rename_i ys
    have e' : (if SeqAt.shaped a && SeqAt.shaped (.list ys) then some (!inL a ys) else none) = some k := e
    split at e'
    · rename_i c
      rw [Bool.and_eq_true] at c
      cases e'
      exact op_notInD hu pins s σ H x y v u Q I rx ry ⟨a, ys, RepB.dp ra c.1, RepR.dpL rb c.2, c.1, c.2, q⟩
    · cases e'
  · rename_i ys
    have e' : (if SeqAt.shaped a && SeqAt.shaped (.tuple ys) then some (!inL a ys) else none) = some k := e
    split at e'
    · rename_i c
      rw [Bool.and_eq_true] at c
      cases e'
      obtain ⟨as, r1⟩ := Dp.reads I a x v (RepB.dp ra c.1) rx
      obtain ⟨bs, r2⟩ := Dp.reads I (.tuple ys) y u (RepR.dpT rb c.2) ry
      exact SeqAt.notIn_tuple_reads r2 r1 (SeqAt.canLay_of_shaped c.2) (SeqAt.canLay_of_shaped c.1) (room_in_shapedT c.1 hu) ⟨.bl _, H, I, rfl, q⟩
    · cases e'
  · rename_i kvs
    have e' : (if isKey a then some (!((dfind a kvs).isSome)) else none) = some k := e
    split at e'
    · rename_i c
      cases e'
      obtain ⟨p, o, rfl, g, ro⟩ := dget_of c ra (rb.elim id False.elim)
      cases ry
      refine d_notIn (room1 hu) I g rx fun s' J => ⟨.bl _, H, J, rfl, ?_⟩
      rw [ro.isSome]
      exact q
    · cases e'
theorem cp_ok (hu : X.A.units + 65 < cLine) : ∀ c : Cp, OpR X (compareOp (cpo c)) (rCp X.K c)
  | .eq => cp_eq hu
  | .ne => cp_ne hu
  | .lt => cp_lt hu
  | .le => cp_le hu
  | .gt => cp_gt
  | .ge => cp_ge hu
  | .isN => cp_isN
  | .notN => cp_notN
  | .isB => cp_isB
  | .notB => cp_notB
  | .inS => cp_inS hu
  | .ninS => cp_ninS hu
  | .inD => cp_inD hu
  | .ninD => cp_ninD hu
  | .inT => cp_inT hu
  | .ninT => cp_ninT hu
theorem tru_of {K : PySem.W.Frag} {A : Addr → Prop} {H : Hp} {x : V} {d : D} {k : Bool} (r : RepB A H x d) (e : truthD d = some k) : TruV K x H k := by
  cases d with
  | none => cases r; cases e; rfl
  | bool b => cases r; cases e; rfl
  | int i => cases r; cases e; rfl
  | list xs =>
    obtain ⟨p, vs, rfl, h, rl⟩ := r
    cases e
    refine .inl ⟨vs, .of h, ?_⟩
    cases rl <;> rfl
  | tuple xs =>
    obtain ⟨p, vs, rfl, na, h, rl⟩ := r
    cases e
    refine .inr (.inl ⟨vs, .of h, ?_⟩)
    cases rl <;> rfl
  | _ => cases e
end
end Ev
/-! Items, slices, built-ins, methods. -/
namespace Ev
open PySem PySem.Spec PyProof.Rows L2

section
variable {X : Cx} {K : PySem.W.Frag} {A : Addr → Prop} {H : Hp}
theorem CallR.imp {f : Value} {r r' : List V → Hp → VK → Prop} (h : CallR X f r) (k : ∀ xs H Q, r' xs H Q → r xs H Q) : CallR X f r' := fun pins s σ H xs us Q I rx q => h pins s σ H xs us Q I rx (k _ _ _ q)
theorem IxR.imp {r r' : R2} (h : IxR X r) (k : ∀ x y H Q, r' x y H Q → r x y H Q) : IxR X r' := fun value slice pins s σ H x y v u Q I rx ry q e => h value slice pins s σ H x y v u Q I rx ry (k _ _ _ _ q) e
theorem SlR.imp {r r' : V → Option Int → Option Int → Hp → VK → Prop} (h : SlR X r) (k : ∀ x l u H Q, r' x l u H Q → r x l u H Q) : SlR X r' := fun pins s σ H x v vl vu lo hi sl Q I rx a b c q => h pins s σ H x v vl vu lo hi sl Q I rx a b c (k _ _ _ _ _ q)
theorem MtR.imp {id : String} {r r' : V → List V → Hp → VK → Prop} (h : MtR X id r) (k : ∀ x xs H Q, r' x xs H Q → r x xs H Q) : MtR X id r' := fun pins s σ H x xs v us Q I rx rxs q => h pins s σ H x xs v us Q I rx rxs (k _ _ _ _ q)

/-- a list that is read -/
def RepLr (K : PySem.W.Frag) (A : Addr → Prop) (H : Hp) (v : V) (d : D) : Prop := RepB A H v d ∨ ∃ xs p vs, d = .list xs ∧ v = .ref p ∧ SqL K H p vs ∧ RepL A H vs xs
theorem RepLr.r {v : V} {d : D} (h : RepLr K A H v d) : RepR K A H v d := by
  rcases h with h | ⟨xs, p, vs, rfl, e, h, r⟩
  · exact .inl h
  · exact .inr ⟨p, vs, e, h, r⟩
theorem RepR.list {v : V} {xs : List D} (h : RepR K A H v (.list xs)) : ∃ p vs, v = .ref p ∧ SqL K H p vs ∧ RepL A H vs xs := by
  rcases h with ⟨p, vs, e, h, r⟩ | h
  · exact ⟨p, vs, e, .of h, r⟩
  · exact h
theorem RepR.tuple {v : V} {xs : List D} (h : RepR K A H v (.tuple xs)) : ∃ p vs, v = .ref p ∧ SqT K H p vs ∧ RepL A H vs xs := by
  rcases h with ⟨p, vs, e, na, h, r⟩ | h
  · exact ⟨p, vs, e, .of h, r⟩
  · exact h

theorem RepR.str {v : V} {x : Str} (h : RepR K A H v (.str x)) : v = .str x := h.elim id False.elim
theorem RepR.dict {v : V} {kvs : List (D × D)} (h : RepR K A H v (.dict kvs)) : RepB A H v (.dict kvs) := h.elim id False.elim
/-! ### items -/
theorem RepL.at_ {vs : List V} {xs : List D} {i : Int} {z : D} (r : RepL A H vs xs) (e : atI xs i = some z) : ∃ v, atI vs i = some v ∧ Rep A H v z := by
  unfold atI at e ⊢
  rw [r.length]
  cases q : ixN xs.length i with
  | none => rw [q] at e; cases e
  | some j =>
    rw [q] at e
    exact r.get e
def rIxD (K : PySem.W.Frag) : R2 := fun x y H Q => ∃ A a b z, RepR K A H x a ∧ RepB A H y b ∧ ixD a b = some z ∧ ∀ v, Rep A H v z → Q v H
theorem ix_ok : IxR X (rIxD X.K) := by
  refine IxR.imp (IxR.or ix_list ix_tup) fun x y H Q h => ?_
  obtain ⟨A, a, b, z, ra, rb, e, q⟩ := h
  cases a <;> cases b <;> try (cases e; done)
  · obtain ⟨p, vs, rfl, hp, r⟩ := ra.list
    obtain ⟨v, e', rv⟩ := r.at_ e
    exact .inl ⟨p, vs, _, v, rfl, rb, hp, e', q v rv⟩
  · obtain ⟨p, vs, rfl, hp, r⟩ := ra.tuple
    obtain ⟨v, e', rv⟩ := r.at_ e
    exact .inr ⟨p, vs, _, v, rfl, rb, hp, e', q v rv⟩

/-! ### slices -/
def rSlD (K : PySem.W.Frag) : V → Option Int → Option Int → Hp → VK → Prop := fun x lo hi H Q => ∃ A a z fr, Allo A H ∧ RepLr K A H x a ∧ slD lo hi a = some (z, fr) ∧ ∀ v H', NewV A H H' v z fr → Q v H'
theorem sl_ok : SlR X (rSlD X.K) := by
  refine SlR.imp (SlR.or sl_list sl_tupA) fun x lo hi H Q h => ?_
  obtain ⟨A, a, z, fr, al, ra, e, q⟩ := h
  cases a <;> try (cases e; done)
  · rename_i xs
    cases e
    obtain ⟨p, vs, rfl, hp, r⟩ := ra.r.list
    refine .inl ⟨p, vs, rfl, hp, fun d hd => q _ _ (.lst al hd ?_)⟩
    unfold cutV
    rw [r.length]
    exact (r.drop _).take _
  · rename_i xs
    cases e
    rcases ra with ⟨p, vs, rfl, na, hp, r⟩ | ⟨_, _, _, e, _⟩
    · refine .inr ⟨p, vs, rfl, .of hp, fun w => ?_, fun _ d hd => q _ _ (.tup al hd ?_)⟩
      · rw [r.length] at w
        rw [w.1, w.2, Nat.sub_zero, List.drop_zero, List.take_length] at q
        exact q _ _ (.here (.tup na hp r))
      · unfold cutV
        rw [r.length]
        exact (r.drop _).take _
    · cases e

/-! ### built-ins of one operand -/
def rB1 (f : D → Option (D × Bool)) : List V → Hp → VK → Prop := fun xs H Q => ∃ A x a z fr, Allo A H ∧ xs = [x] ∧ RepB A H x a ∧ f a = some (z, fr) ∧ ∀ v H', NewV A H H' v z fr → Q v H'
def rLenD (K : PySem.W.Frag) : List V → Hp → VK → Prop := fun xs H Q => ∃ A x a n, xs = [x] ∧ RepR K A H x a ∧ lenD a = some n ∧ Q (.int n) H
theorem RepK.length : ∀ {ws : List (Key × V)} {kvs : List (D × D)}, RepK A H ws kvs → ws.length = kvs.length
  | _, _, .nil => rfl
  | _, _, .cons _ t => congrArg Nat.succ (RepK.length t)
theorem len_ok : CallR X (.builtin "len") (rLenD X.K) := by
  intro pins s σ H xs us Q I r h
  obtain ⟨A, x, a, n, rfl, ra, e, q⟩ := h
  cases a with
  | str x =>
    have e' : (if x.length ≤ line then some (x.length : Int) else none) = some n := e
    split at e'
    · rename_i c
      cases e'
      cases ra.str
      exact call_len pins s σ H _ us Q I r ⟨.str x, x.length, rfl, ⟨by rw [← line_eq]; exact c, rfl⟩, q⟩
    · cases e'
  | list xs =>
    cases e
    obtain ⟨p, vs, rfl, hp, rl⟩ := ra.list
    exact call_len pins s σ H _ us Q I r ⟨.ref p, vs.length, rfl, .inl ⟨vs, hp, rfl⟩, by rw [rl.length]; exact q⟩
  | tuple xs =>
    cases e
    obtain ⟨p, vs, rfl, hp, rl⟩ := ra.tuple
    exact call_len pins s σ H _ us Q I r ⟨.ref p, vs.length, rfl, .inr ⟨vs, hp, rfl⟩, by rw [rl.length]; exact q⟩
  | dict kvs =>
    cases e
    obtain ⟨p, ws, rfl, hp, rl⟩ := ra.dict
    rw [Vals.ref1 r]
    refine d_len I (.of hp) fun t s' J => ⟨.int ws.length, H, J, ⟨t, rfl⟩, ?_⟩
    rw [rl.length]
    exact q
  | _ => cases e
theorem bi_tuple : CallR X (.type "tuple") (rB1 (biD .tuple)) := by
  refine CallR.imp call_tuple_of fun xs H Q h => ?_
  obtain ⟨A, x, a, z, fr, al, rfl, ra, e, q⟩ := h
  cases a <;> try (cases e; done)
  · cases e
    obtain ⟨p, vs, rfl, hp, r⟩ := ra
    exact ⟨p, vs, rfl, .inl ⟨.of hp, fun d hd => q _ _ (.tup al hd r)⟩⟩
  · cases e
    obtain ⟨p, vs, rfl, na, hp, r⟩ := ra
    exact ⟨p, vs, rfl, .inr ⟨.of hp, q _ _ (.here (.tup na hp r))⟩⟩
theorem bi_list : CallR X (.type "list") (rB1 (biD .list)) := by
  refine CallR.imp call_list_of fun xs H Q h => ?_
  obtain ⟨A, x, a, z, fr, al, rfl, ra, e, q⟩ := h
  cases a <;> try (cases e; done)
  · cases e
    obtain ⟨p, vs, rfl, hp, r⟩ := ra
    exact ⟨p, vs, rfl, .inl (.of hp), fun d hd => q _ _ (.lst al hd r)⟩
  · cases e
    obtain ⟨p, vs, rfl, na, hp, r⟩ := ra
    exact ⟨p, vs, rfl, .inr (.of hp), fun d hd => q _ _ (.lst al hd r)⟩
theorem bi_int : CallR X (.type "int") (rB1 (biD .int)) := by
  refine CallR.imp call_int1 fun xs H Q h => ?_
  obtain ⟨A, x, a, z, fr, al, rfl, ra, e, q⟩ := h
  cases a <;> try (cases e; done)
  · rename_i b
    cases e
    cases ra
    exact .inr ⟨b, rfl, q _ _ (.here (.int _))⟩
  · rename_i b
    cases e
    cases ra
    exact .inl ⟨b, rfl, q _ _ (.here (.int _))⟩
theorem bi_str : CallR X (.type "str") (rB1 (biD .str)) := by
  refine CallR.imp call_str_int fun xs H Q h => ?_
  obtain ⟨A, x, a, z, fr, al, rfl, ra, e, q⟩ := h
  cases a <;> try (cases e; done)
  rename_i i
  have e' : (if i.natAbs.log2 < 1920 then some (PyData.str (toString i), false) else none) = some (z, fr) := e
  split at e'
  · rename_i c
    cases e'
    cases ra
    exact ⟨i, rfl, c, q _ _ (.here (.str _))⟩
  · cases e'
theorem bi_sum (hc : X.calm = true) : CallR X (.builtin "sum") (rB1 (biD .sum)) := by
  refine CallR.imp (cr_sum hc) fun xs H Q h => ?_
  obtain ⟨A, x, a, z, fr, al, rfl, ra, e, q⟩ := h
  cases a <;> try (cases e; done)
  rename_i xs
  have e' : (intsD xs).map (fun ns => (PyData.int ns.sum, false)) = some (z, fr) := e
  cases e1 : intsD xs with
  | none => rw [e1] at e'; cases e'
  | some ns =>
    rw [e1] at e'
    cases e'
    obtain ⟨p, vs, rfl, hp, r⟩ := ra
    exact ⟨p, ns, rfl, by rw [← r.ints e1]; exact .of hp, q _ _ (.here (.int _))⟩
theorem bi_all (hc : X.calm = true) : CallR X (.builtin "all") (rB1 (biD .all)) := by
  refine CallR.imp (cr_all hc) fun xs H Q h => ?_
  obtain ⟨A, x, a, z, fr, al, rfl, ra, e, q⟩ := h
  cases a <;> try (cases e; done)
  rename_i xs
  have e' : (boolsD xs).map (fun bs => (PyData.bool (bs.all id), false)) = some (z, fr) := e
  cases e1 : boolsD xs with
  | none => rw [e1] at e'; cases e'
  | some ns =>
    rw [e1] at e'
    cases e'
    obtain ⟨p, vs, rfl, hp, r⟩ := ra
    exact ⟨p, ns, rfl, by rw [← r.bools e1]; exact .of hp, q _ _ (.here (.bl _))⟩
theorem bi_any (hc : X.calm = true) : CallR X (.builtin "any") (rB1 (biD .any)) := by
  refine CallR.imp (cr_any hc) fun xs H Q h => ?_
  obtain ⟨A, x, a, z, fr, al, rfl, ra, e, q⟩ := h
  cases a <;> try (cases e; done)
  rename_i xs
  have e' : (boolsD xs).map (fun bs => (PyData.bool (bs.any id), false)) = some (z, fr) := e
  cases e1 : boolsD xs with
  | none => rw [e1] at e'; cases e'
  | some ns =>
    rw [e1] at e'
    cases e'
    obtain ⟨p, vs, rfl, hp, r⟩ := ra
    exact ⟨p, ns, rfl, by rw [← r.bools e1]; exact .of hp, q _ _ (.here (.bl _))⟩
theorem foldl_max (r : List Int) : ∀ x : Int, (r.foldl max x ∈ x :: r) ∧ ∀ y ∈ x :: r, y ≤ r.foldl max x := by
  induction r with
  | nil => intro x; simp
  | cons a r ih =>
    intro x
    obtain ⟨h1, h2⟩ := ih (max x a)
    rw [List.foldl_cons]
    refine ⟨?_, fun y hy => ?_⟩
    · rcases List.mem_cons.mp h1 with e | e
      · rw [e]
        rcases Int.le_total x a with q | q
        · rw [Int.max_eq_right q]; simp
        · rw [Int.max_eq_left q]; simp
      · exact List.mem_cons_of_mem _ (List.mem_cons_of_mem _ e)
    · have h3 := h2 (max x a) (List.mem_cons_self ..)
      have h4 := Int.le_max_left x a
      have h5 := Int.le_max_right x a
      rcases List.mem_cons.mp hy with e | e
      · rw [e]; exact Int.le_trans h4 h3
      · rcases List.mem_cons.mp e with e | e
        · rw [e]; exact Int.le_trans h5 h3
        · exact h2 y (List.mem_cons_of_mem _ e)
theorem foldl_min (r : List Int) : ∀ x : Int, (r.foldl min x ∈ x :: r) ∧ ∀ y ∈ x :: r, r.foldl min x ≤ y := by
  induction r with
  | nil => intro x; simp
  | cons a r ih =>
    intro x
    obtain ⟨h1, h2⟩ := ih (min x a)
    rw [List.foldl_cons]
    refine ⟨?_, fun y hy => ?_⟩
    · rcases List.mem_cons.mp h1 with e | e
      · rw [e]
        rcases Int.le_total x a with q | q
        · rw [Int.min_eq_left q]; simp
        · rw [Int.min_eq_right q]; simp
      · exact List.mem_cons_of_mem _ (List.mem_cons_of_mem _ e)
    · have h3 := h2 (min x a) (List.mem_cons_self ..)
      have h4 := Int.min_le_left x a
      have h5 := Int.min_le_right x a
      rcases List.mem_cons.mp hy with e | e
      · rw [e]; exact Int.le_trans h3 h4
      · rcases List.mem_cons.mp e with e | e
        · rw [e]; exact Int.le_trans h3 h5
        · exact h2 y (List.mem_cons_of_mem _ e)
theorem bi_max (hc : X.calm = true) : CallR X (.builtin "max") (rB1 (biD .max1)) := by
  refine CallR.imp (cr_max hc) fun xs H Q h => ?_
  obtain ⟨A, x, a, z, fr, al, rfl, ra, e, q⟩ := h
  cases a <;> try (cases e; done)
  rename_i xs
  have e' : ((intsD xs).bind maxI).map (fun i => (PyData.int i, false)) = some (z, fr) := e
  cases e1 : intsD xs with
  | none => rw [e1] at e'; cases e'
  | some ns =>
    rw [e1] at e'
    cases ns with
    | nil => cases e'
    | cons n ns =>
      cases e'
      obtain ⟨p, vs, rfl, hp, r⟩ := ra
      obtain ⟨h1, h2⟩ := foldl_max ns n
      refine ⟨p, n :: ns, rfl, by rw [← r.ints e1]; exact .of hp, Nat.succ_pos _, fun m hm hu => ?_⟩
      rw [Int.le_antisymm (h2 m hm) (hu _ h1)]
      exact q _ _ (.here (.int _))
theorem bi_min (hc : X.calm = true) : CallR X (.builtin "min") (rB1 (biD .min1)) := by
  refine CallR.imp (cr_min hc) fun xs H Q h => ?_
  obtain ⟨A, x, a, z, fr, al, rfl, ra, e, q⟩ := h
  cases a <;> try (cases e; done)
  rename_i xs
  have e' : ((intsD xs).bind minI).map (fun i => (PyData.int i, false)) = some (z, fr) := e
  cases e1 : intsD xs with
  | none => rw [e1] at e'; cases e'
  | some ns =>
    rw [e1] at e'
    cases ns with
    | nil => cases e'
    | cons n ns =>
      cases e'
      obtain ⟨p, vs, rfl, hp, r⟩ := ra
      obtain ⟨h1, h2⟩ := foldl_min ns n
      refine ⟨p, n :: ns, rfl, by rw [← r.ints e1]; exact .of hp, Nat.succ_pos _, fun m hm hu => ?_⟩
      rw [Int.le_antisymm (hu _ h1) (h2 m hm)]
      exact q _ _ (.here (.int _))
def rB2 (f : D → D → Option (D × Bool)) : List V → Hp → VK → Prop := fun xs H Q => ∃ A x y a b z fr, Allo A H ∧ xs = [x, y] ∧ RepB A H x a ∧ RepB A H y b ∧ f a b = some (z, fr) ∧ ∀ v H', NewV A H H' v z fr → Q v H'
theorem bi2_max (hc : X.calm = true) : CallR X (.builtin "max") (rB2 (bi2D .max2)) := by
  refine CallR.imp (call_max2 hc) fun xs H Q h => ?_
  obtain ⟨A, x, y, a, b, z, fr, al, rfl, ra, rb, e, q⟩ := h
  cases a <;> cases b <;> try (cases e; done)
  cases e
  cases ra
  cases rb
  exact ⟨_, _, rfl, q _ _ (.here (.int _))⟩
theorem bi2_min (hc : X.calm = true) : CallR X (.builtin "min") (rB2 (bi2D .min2)) := by
  refine CallR.imp (call_min2 hc) fun xs H Q h => ?_
  obtain ⟨A, x, y, a, b, z, fr, al, rfl, ra, rb, e, q⟩ := h
  cases a <;> cases b <;> try (cases e; done)
  cases e
  cases ra
  cases rb
  exact ⟨_, _, rfl, q _ _ (.here (.int _))⟩

/-! ### isinstance -/
def tyS : Ty → String
  | .int => "int"
  | .bool => "bool"
  | .tuple => "tuple"
  | .list => "list"
  | .str => "str"
  | .dict => "dict"
def dTy : D → String
  | .none => "NoneType"
  | .bool _ => "bool"
  | .int _ => "int"
  | .str _ => "str"
  | .list _ => "list"
  | .tuple _ => "tuple"
  | .dict _ => "dict"
theorem kitB_ok (t : Ty) (d : D) : kitB (dTy d) (tyS t) = some (isiD d t) := by
  cases d <;> cases t <;> (simp only [dTy, tyS, isiD]; decide +kernel)
theorem tyOf_of {v : V} {d : D} (r : RepB A H v d) : TyOf K H v (.type (dTy d)) := by
  cases d with
  | none => cases r; exact .non
  | bool b => cases r; exact .bl b
  | int b => cases r; exact .int b
  | str b => cases r; exact .str b
  | list b => obtain ⟨p, vs, rfl, h, _⟩ := r; exact .lst h
  | tuple b => obtain ⟨p, vs, rfl, _, h, _⟩ := r; exact .tup h
  | dict b => obtain ⟨p, vs, rfl, h, _⟩ := r; exact .dK h
def rIsiD (t : Ty) : List V → Hp → VK → Prop := fun xs H Q => ∃ A x a, xs = [x, .ty (tyS t)] ∧ RepB A H x a ∧ Q (.bl (isiD a t)) H
theorem isi_ok (t : Ty) : CallR X (.builtin "isinstance") (rIsiD t) := by
  refine CallR.imp call_isi fun xs H Q h => ?_
  obtain ⟨A, x, a, rfl, ra, q⟩ := h
  exact ⟨x, .ty (tyS t), .type (dTy a), .type (tyS t), isiD a t, rfl, .ty _, .base (tyOf_of ra), kit_ty (kitB_ok t a), q⟩
/-! ### sorted -/
theorem insI_perm (x : Int) : ∀ l : List Int, (insI x l).Perm (x :: l)
  | [] => .refl _
  | y :: r => by
    unfold insI
    split
    · exact .refl _
    · exact ((insI_perm x r).cons y).trans (.swap x y r)
theorem insI_sorted (x : Int) : ∀ l : List Int, l.Pairwise (· ≤ ·) → (insI x l).Pairwise (· ≤ ·)
  | [], _ => List.pairwise_singleton _ _
  | y :: r, h => by
    unfold insI
    have h1 := List.pairwise_cons.mp h
    split
    · rename_i c
      refine List.pairwise_cons.mpr ⟨fun z hz => ?_, h⟩
      rcases List.mem_cons.mp hz with e | e
      · rw [e]; exact c
      · exact Int.le_trans c (h1.1 z e)
    · rename_i c
      refine List.pairwise_cons.mpr ⟨fun z hz => ?_, insI_sorted x r h1.2⟩
      rcases List.mem_cons.mp ((insI_perm x r).mem_iff.mp hz) with e | e
      · rw [e]; omega
      · exact h1.1 z e
theorem sortI_perm : ∀ l : List Int, (sortI l).Perm l
  | [] => .refl _
  | x :: r => (insI_perm x _).trans ((sortI_perm r).cons x)
theorem sortI_sorted : ∀ l : List Int, (sortI l).Pairwise (· ≤ ·)
  | [] => .nil
  | x :: r => insI_sorted x _ (sortI_sorted r)
theorem sortI_uniq {ns ms : List Int} (h : ms.Perm ns) (hs : ms.Pairwise (· ≤ ·)) : ms = sortI ns :=
  (h.trans (sortI_perm ns).symm).eq_of_pairwise (fun _ _ _ _ h1 h2 => Int.le_antisymm h1 h2) hs (sortI_sorted ns)
def leP (p q : Int × Int) : Prop := lexP q p = false
theorem lexP_iff {p q : Int × Int} : lexP p q = true ↔ p.1 < q.1 ∨ (p.1 = q.1 ∧ p.2 < q.2) := by
  unfold lexP
  by_cases e : p.1 = q.1
  · rw [if_pos e, decide_eq_true_eq]; omega
  · rw [if_neg e, decide_eq_true_eq]; omega
theorem leP_iff {p q : Int × Int} : leP p q ↔ p.1 < q.1 ∨ (p.1 = q.1 ∧ p.2 ≤ q.2) := by
  unfold leP
  rw [Bool.eq_false_iff, ne_eq, lexP_iff]
  omega
theorem leP_anti {p q : Int × Int} (h1 : leP p q) (h2 : leP q p) : p = q := by
  rw [leP_iff] at h1 h2
  apply Prod.ext <;> omega
theorem leP_trans {p q r : Int × Int} (h1 : leP p q) (h2 : leP q r) : leP p r := by
  rw [leP_iff] at *
  omega
theorem insP_perm (x : Int × Int) : ∀ l, (insP x l).Perm (x :: l)
  | [] => .refl _
  | y :: r => by
    unfold insP
    split
    · exact ((insP_perm x r).cons y).trans (.swap x y r)
    · exact .refl _
theorem insP_sorted (x : Int × Int) : ∀ l : List (Int × Int), l.Pairwise leP → (insP x l).Pairwise leP
  | [], _ => List.pairwise_singleton _ _
  | y :: r, h => by
    unfold insP
    have h1 := List.pairwise_cons.mp h
    split
    · rename_i c
      refine List.pairwise_cons.mpr ⟨fun z hz => ?_, insP_sorted x r h1.2⟩
      rcases List.mem_cons.mp ((insP_perm x r).mem_iff.mp hz) with e | e
      · rw [e, leP_iff]
        rw [lexP_iff] at c
        omega
      · exact h1.1 z e
    · rename_i c
      have c' : leP x y := by
        unfold leP
        exact Bool.eq_false_iff.mpr c
      refine List.pairwise_cons.mpr ⟨fun z hz => ?_, h⟩
      rcases List.mem_cons.mp hz with e | e
      · rw [e]; exact c'
      · exact leP_trans c' (h1.1 z e)
theorem sortP_perm : ∀ l, (sortP l).Perm l
  | [] => .refl _
  | x :: r => (insP_perm x _).trans ((sortP_perm r).cons x)
theorem sortP_sorted : ∀ l, (sortP l).Pairwise leP
  | [] => .nil
  | x :: r => insP_sorted x _ (sortP_sorted r)
theorem sortP_uniq {ns ms : List (Int × Int)} (h : ms.Perm ns) (hs : ms.Pairwise leP) : ms = sortP ns :=
  (h.trans (sortP_perm ns).symm).eq_of_pairwise (fun _ _ _ _ h1 h2 => leP_anti h1 h2) hs (sortP_sorted ns)
/-- the pair at a value -/
noncomputable def pairOf (H : Hp) (v : V) : Int × Int := match v with
  | .ref p => match H p with
    | some (.tup [.int a, .int b]) => (a, b)
    | _ => (0, 0)
  | _ => (0, 0)
theorem RepL.pairs : ∀ {vs : List V} {xs : List D} {ps : List (Int × Int)}, RepL A H vs xs → pairsD xs = some ps → vs.map (pairOf H) = ps ∧ ∀ v ∈ vs, ∃ t, ¬ A t ∧ v = .ref t ∧ H t = some (.tup [.int (pairOf H v).1, .int (pairOf H v).2])
  | _, _, _, .nil, e => by cases e; exact ⟨rfl, fun v hv => by cases hv⟩
  | _, _, _, .cons (v := v) (x := x) (xs := xs) h t, e => by
    match x, h, e with
    | .tuple [.int a, .int b], .tup (p := p) na hp r, e =>
      have e' : (pairsD xs).map ((a, b) :: ·) = some _ := e
      cases q : pairsD xs with
      | none => rw [q] at e'; cases e'
      | some ps =>
        rw [q] at e'
        cases e'
        obtain ⟨h1, h2⟩ := RepL.pairs t q
        cases r with
        | cons ra r =>
          cases r with
          | cons rb r =>
            cases r
            cases ra
            cases rb
            have ep : pairOf H (.ref p) = (a, b) := by
              show (match H p with
                | some (.tup [.int a, .int b]) => (a, b)
                | _ => (0, 0)) = (a, b)
              rw [hp]
            refine ⟨by rw [List.map_cons, h1, ep], fun v hv => ?_⟩
            rcases List.mem_cons.mp hv with e | e
            · subst e
              exact ⟨p, na, rfl, by rw [ep]; exact hp⟩
            · exact h2 v e
theorem RepL.of_pairs : ∀ {vs : List V}, (∀ v ∈ vs, ∃ t, ¬ A t ∧ v = .ref t ∧ H t = some (.tup [.int (pairOf H v).1, .int (pairOf H v).2])) → RepL A H vs ((vs.map (pairOf H)).map pairD)
  | [], _ => .nil
  | v :: vs, h => by
    obtain ⟨t, na, e, ht⟩ := h v (List.mem_cons_self ..)
    refine .cons ?_ (RepL.of_pairs fun u hu => h u (List.mem_cons_of_mem _ hu))
    rw [e] at ht ⊢
    exact .tup na ht (.cons (.int _) (.cons (.int _) .nil))
theorem pair_ints : ∀ {xs : List D} {ps : List (Int × Int)} {ns : List Int}, pairsD xs = some ps → intsD xs = some ns → xs = []
  | [], _, _, _, _ => rfl
  | .int _ :: _, _, _, e, _ => by cases e
  | .none :: _, _, _, e, _ => by cases e
  | .bool _ :: _, _, _, e, _ => by cases e
  | .str _ :: _, _, _, e, _ => by cases e
  | .list _ :: _, _, _, e, _ => by cases e
  | .dict _ :: _, _, _, e, _ => by cases e
  | .tuple _ :: _, _, _, _, e => by cases e
theorem bi_sortedL : CallR X (.builtin "sorted") (fun xs H Q => ∃ A p vs ys zs, Allo A H ∧ xs = [.ref p] ∧ SqL X.K H p vs ∧ RepL A H vs ys ∧ sortedD ys = some zs ∧ ∀ v H', NewV A H H' v (.list zs) true → Q v H') := by
  refine CallR.imp (CallR.or cr_sortedI cr_sortedPO) fun xs H Q h => ?_
  obtain ⟨A, p, vs, ys, zs, al, rfl, hp, r, e, q⟩ := h
  unfold sortedD at e
  cases e1 : intsD ys with
  | some ns =>
    rw [e1] at e
    cases e
    refine .inl ⟨p, ns, rfl, by rw [← r.ints e1]; exact hp, fun ms d h1 h2 hd => ?_⟩
    rw [sortI_uniq h1 h2]
    exact q _ _ (.lst al hd (.of_ints _))
  | none =>
    rw [e1] at e
    have e' : (pairsD ys).map (fun ps => (sortP ps).map pairD) = some zs := e
    cases e2 : pairsD ys with
    | none => rw [e2] at e'; cases e'
    | some ps =>
      rw [e2] at e'
      cases e'
      obtain ⟨h1, h2⟩ := r.pairs e2
      refine .inr ⟨p, vs, pairOf H, rfl, hp, fun v hv => ?_, fun ws d hs hb hd => ?_⟩
      · obtain ⟨t, _, e, ht⟩ := h2 v hv
        exact ⟨t, e, ht⟩
      · have hperm := hb.perm
        have h3 : ∀ v ∈ ws, ∃ t, ¬ A t ∧ v = .ref t ∧ H t = some (.tup [.int (pairOf H v).1, .int (pairOf H v).2]) := fun v hv => h2 v (hperm.mem_iff.mp hv)
        have h4 : ws.map (pairOf H) = sortP ps := by
          refine sortP_uniq ?_ ?_
          · rw [← h1]
            exact hperm.map _
          · exact List.pairwise_map.mpr (hs.imp fun {a b} h => h)
        have q' : ∀ v H', NewV A H H' v (.list ((sortP ps).map pairD)) true → Q v H' := q
        rw [← h4] at q'
        exact q' _ _ (.lst al hd (RepL.of_pairs h3))
theorem bi_sorted : CallR X (.builtin "sorted") (rB1 (fun
    | .list xs => biD .sorted (.list xs)
    | _ => none)) := by
  refine CallR.imp bi_sortedL fun xs H Q h => ?_
  obtain ⟨A, x, a, z, fr, al, rfl, ra, e, q⟩ := h
  cases a <;> try (cases e; done)
  rename_i ys
  have e' : (sortedD ys).map (fun ys => (PyData.list ys, true)) = some (z, fr) := e
  cases e1 : sortedD ys with
  | none => rw [e1] at e'; cases e'
  | some zs =>
    rw [e1] at e'
    cases e'
    obtain ⟨p, vs, rfl, hp, r⟩ := ra
    exact ⟨A, p, vs, ys, zs, al, rfl, .of hp, r, e1, q⟩
end
end Ev
/-! The state's relation, what an expression's end asks. -/
namespace Ev
open PySem PySem.Spec PyProof.Rows L2

abbrev Sg := L2.St
def Own (σ : Sg) (r : Rho) (p : Addr) : Prop := ∃ (i : Nat) (o : Ob) (m : Bool), r[i]? = some (some (.own o m)) ∧ σ[i]? = some (some (.ref p))
def Av (A : Addr → Prop) (σ : Sg) (r : Rho) : Addr → Prop := fun p => A p ∨ Own σ r p
/-- a known list of ints -/
def RoOk (K : PySem.W.Frag) (B : Addr → Prop) (H : Hp) (v : V) (x : D) : Prop := ∃ (ns : List Int) (p : Addr), x = .list (ns.map PyData.int) ∧ v = .ref p ∧ ((Rd H p (.lst (ns.map V.int)) ∧ ¬ B p) ∨ ∀ H' : Hp, SqL K H' p (ns.map V.int))
theorem RoOk.step {K : PySem.W.Frag} {B B' : Addr → Prop} {H H' : Hp} {v : V} {x : D} (k1 : ∀ p o, H p = some o → ¬ B p → H' p = some o) (k2 : ∀ p, B' p → B p ∨ H p = none) (q : RoOk K B H v x) : RoOk K B' H' v x := by
  obtain ⟨ns, p, e1, e2, e3⟩ := q
  refine ⟨ns, p, e1, e2, e3.imp (fun ⟨h, nb⟩ => ⟨h.imp (fun h => k1 _ _ h nb) fun ⟨o, h⟩ => ⟨o, k1 _ _ h nb⟩, fun z => (k2 p z).elim nb fun z => ?_⟩) id⟩
  rcases h with h | ⟨o, h⟩ <;> (rw [z] at h; cases h)
theorem RoOk.mono {K : PySem.W.Frag} {B B' : Addr → Prop} {H : Hp} {v : V} {x : D} (h : ∀ p, B' p → B p) (q : RoOk K B H v x) : RoOk K B' H v x := q.step (fun _ _ e _ => e) fun p z => .inl (h p z)
theorem RoOk.sq {K : PySem.W.Frag} {B : Addr → Prop} {H : Hp} {v : V} {x : D} (q : RoOk K B H v x) : ∃ (ns : List Int) (p : Addr), x = .list (ns.map PyData.int) ∧ v = .ref p ∧ SqL K H p (ns.map V.int) := by
  obtain ⟨ns, p, e1, e2, e3⟩ := q
  exact ⟨ns, p, e1, e2, e3.elim (fun h => .inl h.1) fun h => h H⟩
structure Rl (K : PySem.W.Frag) (A : Addr → Prop) (σ : Sg) (H : Hp) (r : Rho) : Prop where
  len : σ.length = r.length
  d : ∀ (i : Nat) (x : D), r[i]? = some (some (.d x)) → ∃ v, σ[i]? = some (some v) ∧ Rep (Av A σ r) H v x
  own : ∀ (i : Nat) (o : Ob) (m : Bool), r[i]? = some (some (.own o m)) → ∃ p, σ[i]? = some (some (.ref p)) ∧ ObRep (Av A σ r) H p o ∧ (m = true → ¬ A p)
  ro : ∀ (i : Nat) (x : D), r[i]? = some (some (.ro x)) → ∃ v, σ[i]? = some (some v) ∧ RoOk K (Av A σ r) H v x
  inj : ∀ (i j : Nat) (o : Ob) (m : Bool) (o' : Ob) (m' : Bool) (p : Addr), r[i]? = some (some (.own o m)) → r[j]? = some (some (.own o' m')) → σ[i]? = some (some (.ref p)) → σ[j]? = some (some (.ref p)) → i = j
  al : Allo A H
/-- from one state to a later one: what is not a variable's own stands -/
structure Stp (σ : Sg) (r r' : Rho) (H H' : Hp) : Prop where
  keep : ∀ p o, H p = some o → ¬ Own σ r p → H' p = some o
  live : ∀ p, lvl (H p) ≤ lvl (H' p)
  slot : ∀ (i : Nat) (o : Ob) (m : Bool), r'[i]? = some (some (.own o m)) → ∃ o', r[i]? = some (some (.own o' m))
theorem Stp.own {σ : Sg} {r r' : Rho} {H H' : Hp} (s : Stp σ r r' H H') (p : Addr) (h : Own σ r' p) : Own σ r p := by
  obtain ⟨i, o, m, e1, e2⟩ := h
  obtain ⟨o', e3⟩ := s.slot i o m e1
  exact ⟨i, o', m, e3, e2⟩
theorem Stp.refl {σ : Sg} {r : Rho} {H : Hp} : Stp σ r r H H := ⟨fun _ _ h _ => h, fun _ => Nat.le_refl _, fun _ _ _ h => ⟨_, h⟩⟩
theorem Stp.trans {σ : Sg} {r r1 r2 : Rho} {H H1 H2 : Hp} (a : Stp σ r r1 H H1) (b : Stp σ r1 r2 H1 H2) : Stp σ r r2 H H2 :=
  ⟨fun p o h n => b.keep p o (a.keep p o h n) fun z => n (a.own p z), fun p => Nat.le_trans (a.live p) (b.live p), fun i o m h => let ⟨_, h1⟩ := b.slot i o m h; a.slot i _ m h1⟩
theorem Stp.grow {σ : Sg} {r : Rho} {H H' : Hp} (g : ∀ p o, H p = some o → H' p = some o) : Stp σ r r H H' :=
  ⟨fun p o h _ => g p o h, lvl_grow g, fun _ _ _ h => ⟨_, h⟩⟩
theorem Stp.none {σ : Sg} {r r' : Rho} {H H' : Hp} (a : Stp σ r r' H H') {p : Addr} (h : H' p = Option.none) : H p = Option.none := by
  have := a.live p
  rw [h] at this
  exact lvl_none (Nat.le_zero.mp this)
/-- a part of the module -/
def RepC (K : PySem.W.Frag) (v : V) (d : D) : Prop := ∀ A H, RepR K A H v d
/-- a value that waits -/
def HV (K : PySem.W.Frag) (A : Addr → Prop) (σ : Sg) (H : Hp) (r : Rho) (v : V) : AV → Prop
  | .d x false => Rep (Av A σ r) H v x
  | .d x true => ∃ p, v = .ref p ∧ A p ∧ ¬ Own σ r p ∧ ObD (Av A σ r) H p x
  | .var i => σ[i]? = some (some v)
  | .cst x => RepC K v x
/-- the end of an expression -/
def OkE (K : PySem.W.Frag) (A : Addr → Prop) (σ : Sg) (r : Rho) (H : Hp) (v : V) (H' : Hp) (av : AV) (r' : Rho) : Prop := Stp σ r r' H H' ∧ match av with
  | .d x true => ∃ p, v = .ref p ∧ H p = none ∧ ¬ Own σ r' p ∧ Rl K (And1 A p) σ H' r' ∧ ObD (Av (And1 A p) σ r') H' p x
  | _ => Rl K A σ H' r' ∧ HV K A σ H' r' v av

section
variable {K : PySem.W.Frag} {A A' : Addr → Prop} {σ : Sg} {r r' : Rho} {H H' : Hp}
theorem Av.mono (h : ∀ p, A p → A' p) (o : ∀ p, Own σ r p → Own σ r' p) : ∀ p, Av A σ r p → Av A' σ r' p := fun p => Or.imp (h p) (o p)
theorem Rep.mono {v : V} {x : D} (h : ∀ p, A p → A' p) (q : Rep A' H v x) : Rep A H v x := q.step (fun _ _ e _ => e) fun p z => .inl (h p z)
theorem ObRep.mono {p : Addr} {o : Ob} (h : ∀ p, A p → A' p) (q : ObRep A' H p o) : ObRep A H p o := q.step (fun _ _ e _ => e) fun p z => .inl (h p z)
theorem ObD.mono {p : Addr} {o : D} (h : ∀ p, A p → A' p) (q : ObD A' H p o) : ObD A H p o := q.step (fun _ _ e _ => e) fun p z => .inl (h p z)
/-- fewer addresses to be kept from -/
theorem Rl.mono (R : Rl K A' σ H r) (h : ∀ p, A p → A' p) : Rl K A σ H r where
  len := R.len
  d := fun i x e => let ⟨v, e1, e2⟩ := R.d i x e; ⟨v, e1, e2.mono (Av.mono h fun _ z => z)⟩
  own := fun i o m e => let ⟨p, e1, e2, e3⟩ := R.own i o m e; ⟨p, e1, e2.mono (Av.mono h fun _ z => z), fun z y => e3 z (h p y)⟩
  ro := fun i x e => let ⟨v, e1, e2⟩ := R.ro i x e; ⟨v, e1, e2.mono (Av.mono h fun _ z => z)⟩
  inj := R.inj
  al := fun p z => R.al p (h p z)
theorem Rl.own_lvl (R : Rl K A σ H r) {p : Addr} (h : Own σ r p) : 2 ≤ lvl (H p) := by
  obtain ⟨i, o, m, e1, e2⟩ := h
  obtain ⟨q, e3, ob, _⟩ := R.own i o m e1
  rw [e2] at e3
  cases e3
  cases o <;> (obtain ⟨vs, e, _⟩ := ob; rw [e]; exact Nat.le_refl 2)
theorem Rl.own_some (R : Rl K A σ H r) {p : Addr} (h : Own σ r p) : H p ≠ none := lvl_ne (Nat.le_trans (by decide) (R.own_lvl h))
theorem Rl.av (R : Rl K A σ H r) : Allo (Av A σ r) H := fun p h => h.elim (R.al p) R.own_lvl
theorem HV.step {v : V} {av : AV} (s : Stp σ r r' H H') (h : ∀ p, A p → A' p) (h' : ∀ p, A' p → A p ∨ H p = none) (q : HV K A σ H r v av) : HV K A' σ H' r' v av := by
  have k1 : ∀ p o, H p = some o → ¬ Av A σ r p → H' p = some o := fun p o e n => s.keep p o e fun z => n (.inr z)
  have k2 : ∀ p, Av A' σ r' p → Av A σ r p ∨ H p = none := fun p z => z.elim (fun z => (h' p z).imp .inl id) fun z => .inl (.inr (s.own p z))
  match av, q with
  | .d x false, q =>
    have q' : Rep (Av A σ r) H v x := q
    exact q'.step k1 k2
  | .d x true, ⟨p, e, a, n, o⟩ => exact ⟨p, e, h p a, fun z => n (s.own p z), o.step (fun q u e z => s.keep q u e fun y => z.elim (fun w => (by rw [w] at y; exact n y)) fun w => w (.inr y)) k2⟩
  | .var i, q => exact q
  | .cst x, q => exact q
/-- the state where the heap grew -/
theorem Rl.grow (R : Rl K A σ H r) (g : ∀ p o, H p = some o → H' p = some o) : Rl K A σ H' r := by
  have s : Stp σ r r H H' := .grow g
  have k2 : ∀ p, Av A σ r p → Av A σ r p ∨ H p = none := fun p z => .inl z
  exact ⟨R.len, fun i x e => let ⟨v, e1, e2⟩ := R.d i x e; ⟨v, e1, e2.step (fun p o e _ => g p o e) k2⟩,
    fun i o m e => let ⟨p, e1, e2, e3⟩ := R.own i o m e; ⟨p, e1, e2.step (fun p o e _ => g p o e) k2, e3⟩,
    fun i x e => let ⟨v, e1, e2⟩ := R.ro i x e; ⟨v, e1, e2.step (fun p o e _ => g p o e) k2⟩, R.inj, fun p z => Nat.le_trans (R.al p z) (s.live p)⟩
/-- .. and one address more is to be kept from -/
theorem Rl.and1 (R : Rl K A σ H r) (g : ∀ p o, H p = some o → H' p = some o) {p : Addr} (hp : H p = none) (hp' : 2 ≤ lvl (H' p)) : Rl K (And1 A p) σ H' r := by
  have s : Stp σ r r H H' := .grow g
  have k2 : ∀ q, Av (And1 A p) σ r q → Av A σ r q ∨ H q = none := fun q z => by
    rcases z with (z | z) | z
    · exact .inl (.inl z)
    · exact .inr (z ▸ hp)
    · exact .inl (.inr z)
  refine ⟨R.len, fun i x e => let ⟨v, e1, e2⟩ := R.d i x e; ⟨v, e1, e2.step (fun p o e _ => g p o e) k2⟩,
    fun i o m e => let ⟨q, e1, e2, e3⟩ := R.own i o m e; ⟨q, e1, e2.step (fun p o e _ => g p o e) k2, fun z y => ?_⟩,
    fun i x e => let ⟨v, e1, e2⟩ := R.ro i x e; ⟨v, e1, e2.step (fun p o e _ => g p o e) k2⟩, R.inj, fun q z => ?_⟩
  · rcases y with y | y
    · exact e3 z y
    · exact R.own_some ⟨i, o, m, e, e1⟩ (y ▸ hp)
  · rcases z with z | z
    · exact Nat.le_trans (R.al q z) (s.live q)
    · exact z ▸ hp'
/-- a value from an operation on data -/
theorem OkE.ofNew {v : V} {x : D} {fr : Bool} (R : Rl K A σ H r) (n : NewV (Av A σ r) H H' v x fr) : OkE K A σ r H v H' (.d x fr) r := by
  obtain ⟨g, n⟩ := n
  refine ⟨.grow g, ?_⟩
  cases fr with
  | false => exact ⟨R.grow g, n⟩
  | true =>
    obtain ⟨p, e, hp, na, o⟩ := n
    have hp' : 2 ≤ lvl (H' p) := by
      cases x <;> first | exact o.elim | (obtain ⟨vs, e, _⟩ := o; rw [e]; exact Nat.le_refl 2)
    refine ⟨p, e, hp, fun z => na (.inr z), R.and1 g hp hp', o.step (fun _ _ e _ => e) fun q z => .inl ?_⟩
    rcases z with (z | z) | z
    · exact .inl (.inl z)
    · exact .inr z
    · exact .inl (.inr z)
theorem Rl.un (R : Rl K (And1 A p) σ H r) : Rl K A σ H r := R.mono fun _ z => .inl z
/-- nothing new is held: a value as any other -/
theorem OkE.unfr {v : V} {av : AV} (al : Allo A H) (q : OkE K A σ r H v H' av r') : OkE K A σ r H v H' (unfr av) r' := by
  obtain ⟨s, q⟩ := q
  match av, q with
  | .d x false, q => exact ⟨s, q⟩
  | .var i, q => exact ⟨s, q⟩
  | .cst x, q => exact ⟨s, q⟩
  | .d x true, ⟨p, e, hp, no, R, o⟩ =>
    refine ⟨s, R.un, ?_⟩
    show Rep (Av A σ r') H' v x
    rw [e]
    refine ObD.rep (fun z => ?_) (o.mono (Av.mono (fun _ z => .inl z) fun _ z => z))
    exact z.elim (fun z => al.ne z hp) no
/-- .. held -/
theorem OkE.hold {v : V} {av : AV} (q : OkE K A σ r H v H' av r') : ∃ A1 : Addr → Prop, (∀ p, A p → A1 p) ∧ (∀ p, A1 p → A p ∨ H p = none) ∧ Stp σ r r' H H' ∧ Rl K A1 σ H' r' ∧ HV K A1 σ H' r' v av := by
  obtain ⟨s, q⟩ := q
  match av, q with
  | .d x false, q => exact ⟨A, fun _ z => z, fun _ z => .inl z, s, q.1, q.2⟩
  | .var i, q => exact ⟨A, fun _ z => z, fun _ z => .inl z, s, q.1, q.2⟩
  | .cst x, q => exact ⟨A, fun _ z => z, fun _ z => .inl z, s, q.1, q.2⟩
  | .d x true, ⟨p, e, hp, no, R, o⟩ => exact ⟨And1 A p, fun _ z => .inl z, fun q z => z.imp id (fun y => by rw [y]; exact hp), s, R, p, e, .inr rfl, no, o⟩
theorem OkE.back {A1 : Addr → Prop} {r1 : Rho} {H1 : Hp} {v : V} {av : AV} (s : Stp σ r r1 H H1) (h : ∀ p, A p → A1 p) (q : OkE K A1 σ r1 H1 v H' av r') : OkE K A σ r H v H' av r' := by
  obtain ⟨s', q⟩ := q
  refine ⟨s.trans s', ?_⟩
  match av, q with
  | .d x false, q =>
    have q2 : Rep (Av A1 σ r') H' v x := q.2
    exact ⟨q.1.mono h, q2.mono (Av.mono h fun _ z => z)⟩
  | .var i, q => exact ⟨q.1.mono h, q.2⟩
  | .cst x, q => exact ⟨q.1.mono h, q.2⟩
  | .d x true, ⟨p, e, hp, no, R, o⟩ =>
    have k : ∀ q, And1 A p q → And1 A1 p q := fun q z => z.imp (h q) id
    exact ⟨p, e, s.none hp, no, R.mono k, o.mono (Av.mono k fun _ z => z)⟩

/-! ### reading a value that waits -/
theorem rd_ok {v : V} {av : AV} {x : D} (R : Rl K A σ H r) (q : HV K A σ H r v av) (e : rd r av = some x) : RepB (Av A σ r) H v x := by
  match av, q with
  | .d y false, q =>
    cases e
    have q' : Rep (Av A σ r) H v x := q
    exact q'.b
  | .d y true, ⟨p, e1, _, _, o⟩ =>
    cases e
    rw [e1]
    exact o.b
  | .cst y, q => cases e
  | .var i, q =>
    have e' : (match r[i]? with
      | some (some (.d x)) => some x
      | some (some (.own o _)) => obR o
      | _ => none) = some x := e
    split at e'
    · rename_i y hy
      cases e'
      obtain ⟨u, h1, h2⟩ := R.d i _ hy
      have q' : σ[i]? = some (some v) := q
      rw [q'] at h1
      cases h1
      exact h2.b
    · rename_i o m hy
      obtain ⟨p, h1, h2, _⟩ := R.own i _ _ hy
      have q' : σ[i]? = some (some v) := q
      rw [q'] at h1
      cases h1
      exact h2.b e'
    · cases e'
theorem rdl_ok {v : V} {av : AV} {x : D} (R : Rl K A σ H r) (q : HV K A σ H r v av) (e : rdl r av = some x) : RepLr K (Av A σ r) H v x := by
  match av, q with
  | .d y f, q => exact .inl (rd_ok R q (av := .d y f) e)
  | .cst y, q => cases e
  | .var i, q =>
    have e' : (match r[i]? with
      | some (some (.d x)) => some x
      | some (some (.own o _)) => obR o
      | some (some (.ro x)) => some x
      | _ => none) = some x := e
    split at e'
    · rename_i y hy
      exact .inl (rd_ok R q (av := .var i) (by simp only [rd, hy]; exact e'))
    · rename_i o m hy
      exact .inl (rd_ok R q (av := .var i) (by simp only [rd, hy]; exact e'))
    · rename_i y hy
      cases e'
      obtain ⟨u, h1, ro⟩ := R.ro i _ hy
      obtain ⟨ns, p, e1, e2, e3⟩ := ro.sq
      have q' : σ[i]? = some (some v) := q
      rw [q'] at h1
      cases h1
      rw [e1]
      exact .inr ⟨_, p, _, rfl, e2, e3, .of_ints ns⟩
    · cases e'
theorem rdr_ok {v : V} {av : AV} {x : D} (R : Rl K A σ H r) (q : HV K A σ H r v av) (e : rdr r av = some x) : RepR K (Av A σ r) H v x := by
  match av, q with
  | .d y f, q => exact (rdl_ok R q (av := .d y f) e).r
  | .var i, q => exact (rdl_ok R q (av := .var i) e).r
  | .cst y, q =>
    cases e
    exact q _ _
end

/-! ### what is asked of an end -/
/-- the classes of errors, their fields -/
abbrev ClsT := Nat → Option (Addr × List Str)
def ExOk (cl : ClsT) (A : Addr → Prop) (H : Hp) (c : Nat) (fs : List D) (C : Addr) (dx : Option Addr) : Prop := ∃ nm, cl c = some (C, nm) ∧ ((nm = [] ∧ fs = [] ∧ dx = none) ∨
  (nm ≠ [] ∧ ∃ d l vs, dx = some d ∧ H d = some (.xd l) ∧ (∀ f, l.lookup f = (nm.zip vs).lookup f) ∧ nm.length = vs.length ∧ RepL A H vs fs))
def PostX (K : PySem.W.Frag) (cl : ClsT) (W : WX) (A : Addr → Prop) (σ : Sg) (r : Rho) (H : Hp) (c : Nat) (fs : List D) (r' : Rho) : Prop :=
  ∀ C dx H', Stp σ r r' H H' → Rl K A σ H' r' → ExOk cl (Av A σ r') H' c fs C dx → W (.ref C) dx σ H'
def PostE (K : PySem.W.Frag) (cl : ClsT) (W : WX) (A : Addr → Prop) (σ : Sg) (r : Rho) (H : Hp) (Q : VK) : R AV → Prop
  | .ok av r' => ∀ v H', OkE K A σ r H v H' av r' → Q v H'
  | .exc c fs r' => PostX K cl W A σ r H c fs r'
  | .stuck => False
def PostT (K : PySem.W.Frag) (cl : ClsT) (W : WX) (A : Addr → Prop) (σ : Sg) (r : Rho) (H : Hp) (Q : Bool → Hp → Prop) : R Bool → Prop
  | .ok k r' => ∀ H', Stp σ r r' H H' → Rl K A σ H' r' → Q k H'
  | .exc c fs r' => PostX K cl W A σ r H c fs r'
  | .stuck => False
def PostA (K : PySem.W.Frag) (cl : ClsT) (W : WX) (A : Addr → Prop) (σ : Sg) (r : Rho) (H : Hp) (Q : List V → Hp → Prop) : R (List AV) → Prop
  | .ok as r' => ∀ vs H', Stp σ r r' H H' → Rl K A σ H' r' → Paired (fun v a => HV K A σ H' r' v a) vs as → Q vs H'
  | .exc c fs r' => PostX K cl W A σ r H c fs r'
  | .stuck => False
def PostD (K : PySem.W.Frag) (cl : ClsT) (W : WX) (A : Addr → Prop) (σ : Sg) (r : Rho) (H : Hp) (Q : V → Hp → Prop) : R D → Prop
  | .ok x r' => ∀ v H', Stp σ r r' H H' → Rl K A σ H' r' → Rep (Av A σ r') H' v x → Q v H'
  | .exc c fs r' => PostX K cl W A σ r H c fs r'
  | .stuck => False
def PostL (K : PySem.W.Frag) (cl : ClsT) (W : WX) (A : Addr → Prop) (σ : Sg) (r : Rho) (H : Hp) (Q : List V → Hp → Prop) : R (List D) → Prop
  | .ok xs r' => ∀ vs H', Stp σ r r' H H' → Rl K A σ H' r' → RepL (Av A σ r') H' vs xs → Q vs H'
  | .exc c fs r' => PostX K cl W A σ r H c fs r'
  | .stuck => False
section
variable {K : PySem.W.Frag} {cl : ClsT} {W : WX} {A A1 : Addr → Prop} {σ : Sg} {r r1 : Rho} {H H1 : Hp}
theorem ExOk.mono {c : Nat} {fs : List D} {C : Addr} {dx : Option Addr} (h : ∀ p, A p → A1 p) (q : ExOk cl A1 H c fs C dx) : ExOk cl A H c fs C dx := by
  obtain ⟨nm, e, q⟩ := q
  refine ⟨nm, e, q.imp id fun ⟨n, d, l0, vs, a, b, lk, l, rr⟩ => ⟨n, d, l0, vs, a, b, lk, l, rr.step (fun _ _ e _ => e) fun p z => .inl (h p z)⟩⟩
theorem PostX.back {c : Nat} {fs : List D} {r' : Rho} (s : Stp σ r r1 H H1) (h : ∀ p, A p → A1 p) (q : PostX K cl W A σ r H c fs r') : PostX K cl W A1 σ r1 H1 c fs r' :=
  fun C dx H' s' R x => q C dx H' (s.trans s') (R.mono h) (x.mono (Av.mono h fun _ z => z))
theorem PostE.back {Q : VK} {res : R AV} (s : Stp σ r r1 H H1) (h : ∀ p, A p → A1 p) (q : PostE K cl W A σ r H Q res) : PostE K cl W A1 σ r1 H1 Q res := by
  cases res with
  | ok av r' => exact fun v H' o => q v H' (o.back s h)
  | exc c fs r' => exact PostX.back s h q
  | stuck => exact q
theorem PostT.back {Q : Bool → Hp → Prop} {res : R Bool} (s : Stp σ r r1 H H1) (h : ∀ p, A p → A1 p) (q : PostT K cl W A σ r H Q res) : PostT K cl W A1 σ r1 H1 Q res := by
  cases res with
  | ok av r' => exact fun H' s' R => q H' (s.trans s') (R.mono h)
  | exc c fs r' => exact PostX.back s h q
  | stuck => exact q
theorem PostD.back {Q : VK} {res : R D} (s : Stp σ r r1 H H1) (h : ∀ p, A p → A1 p) (q : PostD K cl W A σ r H Q res) : PostD K cl W A1 σ r1 H1 Q res := by
  cases res with
  | ok av r' => exact fun v H' s' R o => q v H' (s.trans s') (R.mono h) (o.mono (Av.mono h fun _ z => z))
  | exc c fs r' => exact PostX.back s h q
  | stuck => exact q
theorem RepL.mono {vs : List V} {xs : List D} (h : ∀ p, A p → A1 p) (q : RepL A1 H vs xs) : RepL A H vs xs := q.step (fun _ _ e _ => e) fun p z => .inl (h p z)
theorem PostL.back {Q : List V → Hp → Prop} {res : R (List D)} (s : Stp σ r r1 H H1) (h : ∀ p, A p → A1 p) (q : PostL K cl W A σ r H Q res) : PostL K cl W A1 σ r1 H1 Q res := by
  cases res with
  | ok av r' => exact fun v H' s' R o => q v H' (s.trans s') (R.mono h) (o.mono (Av.mono h fun _ z => z))
  | exc c fs r' => exact PostX.back s h q
  | stuck => exact q
end
/-- readings by an evaluation -/
def tEv (K : PySem.W.Frag) (cl : ClsT) (W : WX) (ev : Rho → R AV) : TE := fun σ H Q => ∃ A r, Rl K A σ H r ∧ PostE K cl W A σ r H Q (ev r)
def tTv (K : PySem.W.Frag) (cl : ClsT) (W : WX) (ev : Rho → R Bool) : TT := fun σ H Q => ∃ A r, Rl K A σ H r ∧ PostT K cl W A σ r H Q (ev r)
def tAv (K : PySem.W.Frag) (cl : ClsT) (W : WX) (ev : Rho → R (List AV)) : TA := fun σ H Q => ∃ A r, Rl K A σ H r ∧ PostA K cl W A σ r H Q (ev r)
def tDv (K : PySem.W.Frag) (cl : ClsT) (W : WX) (ev : Rho → R D) : TE := fun σ H Q => ∃ A r, Rl K A σ H r ∧ PostD K cl W A σ r H Q (ev r)
def tLv (K : PySem.W.Frag) (cl : ClsT) (W : WX) (ev : Rho → R (List D)) : TA := fun σ H Q => ∃ A r, Rl K A σ H r ∧ PostL K cl W A σ r H Q (ev r)

section
variable {K : PySem.W.Frag} {cl : ClsT} {W : WX} {eva evb evc : Rho → R AV}
theorem post1 {op : AV → Rho → R AV} {t : V → Hp → VK → Prop} (hop : ∀ A σ r H x v Q, Rl K A σ H r → HV K A σ H r v x → PostE K cl W A σ r H Q (op x r) → t v H Q) :
    ∀ σ H Q, tEv K cl W (fun r => (eva r).bind fun x r1 => op x r1) σ H Q → tEv K cl W eva σ H fun x H1 => t x H1 Q := by
  rintro σ H Q ⟨A, r, R, h⟩
  refine ⟨A, r, R, ?_⟩
  dsimp only at h
  generalize eva r = ra at h ⊢
  cases ra with
  | stuck => exact h
  | exc c fs r' => exact h
  | ok x r1 =>
    intro v H1 ok
    obtain ⟨A1, h1, _, s1, R1, q1⟩ := ok.hold
    exact hop A1 σ r1 H1 x v Q R1 q1 (PostE.back s1 h1 h)
theorem post2 {op : AV → AV → Rho → R AV} {t : R2} (hop : ∀ A σ r H x y v u Q, Rl K A σ H r → HV K A σ H r v x → HV K A σ H r u y → PostE K cl W A σ r H Q (op x y r) → t v u H Q) :
    ∀ σ H Q, tEv K cl W (fun r => (eva r).bind fun x r1 => (evb r1).bind fun y r2 => op x y r2) σ H Q → tOp t (tEv K cl W eva) (tEv K cl W evb) σ H Q := by
  rintro σ H Q ⟨A, r, R, h⟩
  refine ⟨A, r, R, ?_⟩
  dsimp only at h
  generalize eva r = ra at h ⊢
  cases ra with
  | stuck => exact h
  | exc c fs r' => exact h
  | ok x r1 =>
    intro v H1 ok
    obtain ⟨A1, h1, _, s1, R1, q1⟩ := ok.hold
    refine ⟨A1, r1, R1, ?_⟩
    have h := PostE.back s1 h1 h
    simp only [Ev.R.bind] at h
    generalize evb r1 = rb at h ⊢
    cases rb with
    | stuck => exact h
    | exc c fs r' => exact h
    | ok y r2 =>
      intro u H2 ok2
      obtain ⟨A2, h2, g2, s2, R2, q2⟩ := ok2.hold
      exact hop A2 σ r2 H2 x y v u Q R2 (q1.step s2 h2 g2) q2 (PostE.back s2 h2 h)
theorem post2t {op : AV → AV → Rho → R Bool} {t : R2} (hop : ∀ A σ r H x y v u (Q : Bool → Hp → Prop), Rl K A σ H r → HV K A σ H r v x → HV K A σ H r u y → PostT K cl W A σ r H Q (op x y r) → t v u H fun z H' => ∃ k, z = .bl k ∧ Q k H') :
    ∀ σ H Q, tTv K cl W (fun r => (eva r).bind fun x r1 => (evb r1).bind fun y r2 => op x y r2) σ H Q → tTest (tOp t (tEv K cl W eva) (tEv K cl W evb)) σ H Q := by
  rintro σ H Q ⟨A, r, R, h⟩
  refine ⟨A, r, R, ?_⟩
  dsimp only at h
  generalize eva r = ra at h ⊢
  cases ra with
  | stuck => exact h
  | exc c fs r' => exact h
  | ok x r1 =>
    intro v H1 ok
    obtain ⟨A1, h1, _, s1, R1, q1⟩ := ok.hold
    refine ⟨A1, r1, R1, ?_⟩
    have h := PostT.back s1 h1 h
    simp only [Ev.R.bind] at h
    generalize evb r1 = rb at h ⊢
    cases rb with
    | stuck => exact h
    | exc c fs r' => exact h
    | ok y r2 =>
      intro u H2 ok2
      obtain ⟨A2, h2, g2, s2, R2, q2⟩ := ok2.hold
      exact hop A2 σ r2 H2 x y v u Q R2 (q1.step s2 h2 g2) q2 (PostT.back s2 h2 h)
/-- a value, then its truth -/
theorem post_truth {ev : Rho → R AV} : ∀ σ H Q, tTv K cl W (fun r => (ev r).bind fun x r1 => truthV x r1) σ H Q → tEv K cl W ev σ H fun x H' => ∃ k, TruV K x H' k ∧ Q k H' := by
  rintro σ H Q ⟨A, r, R, h⟩
  refine ⟨A, r, R, ?_⟩
  dsimp only at h
  generalize ev r = ra at h ⊢
  cases ra with
  | stuck => exact h
  | exc c fs r' => exact h
  | ok x r1 =>
    intro v H1 ok
    obtain ⟨A1, h1, _, s1, R1, q1⟩ := ok.hold
    have h := PostT.back s1 h1 h
    simp only [Ev.R.bind, truthV] at h
    cases e : rd r1 x with
    | none => rw [e] at h; exact h.elim
    | some a =>
      rw [e] at h
      dsimp only at h
      cases e2 : truthD a with
      | none => rw [e2] at h; exact h.elim
      | some k =>
        rw [e2] at h
        exact ⟨k, tru_of (rd_ok R1 q1 e) e2, h H1 .refl R1⟩
/-- an operation on data, of one operand, of two -/
theorem op1_post {f : D → Option (D × Bool)} {A : Addr → Prop} {σ : Sg} {r : Rho} {H : Hp} {x : AV} {v : V} {Q : VK} (R : Rl K A σ H r) (q : HV K A σ H r v x) (h : PostE K cl W A σ r H Q (op1 f x r)) :
    ∃ a z fr, RepB (Av A σ r) H v a ∧ f a = some (z, fr) ∧ ∀ u H', NewV (Av A σ r) H H' u z fr → Q u H' := by
  unfold op1 at h
  cases e : rd r x with
  | none => rw [e] at h; exact h.elim
  | some a =>
    rw [e] at h
    dsimp only at h
    cases e2 : f a with
    | none => rw [e2] at h; exact h.elim
    | some p =>
      rw [e2] at h
      exact ⟨a, p.1, p.2, rd_ok R q e, e2, fun u H' n => h u H' (.ofNew R n)⟩
theorem op1r_post {f : D → Option (D × Bool)} {A : Addr → Prop} {σ : Sg} {r : Rho} {H : Hp} {x : AV} {v : V} {Q : VK} (R : Rl K A σ H r) (q : HV K A σ H r v x) (h : PostE K cl W A σ r H Q (op1r f x r)) :
    ∃ a z fr, RepR K (Av A σ r) H v a ∧ f a = some (z, fr) ∧ ∀ u H', NewV (Av A σ r) H H' u z fr → Q u H' := by
  unfold op1r at h
  cases e : rdr r x with
  | none => rw [e] at h; exact h.elim
  | some a =>
    rw [e] at h
    dsimp only at h
    cases e2 : f a with
    | none => rw [e2] at h; exact h.elim
    | some p =>
      rw [e2] at h
      exact ⟨a, p.1, p.2, rdr_ok R q e, e2, fun u H' n => h u H' (.ofNew R n)⟩
theorem op1l_post {f : D → Option (D × Bool)} {A : Addr → Prop} {σ : Sg} {r : Rho} {H : Hp} {x : AV} {v : V} {Q : VK} (R : Rl K A σ H r) (q : HV K A σ H r v x) (h : PostE K cl W A σ r H Q (op1l f x r)) :
    ∃ a z fr, RepLr K (Av A σ r) H v a ∧ f a = some (z, fr) ∧ ∀ u H', NewV (Av A σ r) H H' u z fr → Q u H' := by
  unfold op1l at h
  cases e : rdl r x with
  | none => rw [e] at h; exact h.elim
  | some a =>
    rw [e] at h
    dsimp only at h
    cases e2 : f a with
    | none => rw [e2] at h; exact h.elim
    | some p =>
      rw [e2] at h
      exact ⟨a, p.1, p.2, rdl_ok R q e, e2, fun u H' n => h u H' (.ofNew R n)⟩
theorem op2v_post {f : D → D → Option (D × Bool)} {A : Addr → Prop} {σ : Sg} {r : Rho} {H : Hp} {x y : AV} {v u : V} {Q : VK} (R : Rl K A σ H r) (q : HV K A σ H r v x) (q2 : HV K A σ H r u y) (h : PostE K cl W A σ r H Q (op2v f x y r)) :
    ∃ a b z fr, RepB (Av A σ r) H v a ∧ RepB (Av A σ r) H u b ∧ f a b = some (z, fr) ∧ ∀ w H', NewV (Av A σ r) H H' w z fr → Q w H' := by
  unfold op2v at h
  cases e : rd r x with
  | none => rw [e] at h; exact h.elim
  | some a =>
    cases e1 : rd r y with
    | none => rw [e, e1] at h; exact h.elim
    | some b =>
      rw [e, e1] at h
      dsimp only at h
      cases e2 : f a b with
      | none => rw [e2] at h; exact h.elim
      | some p =>
        rw [e2] at h
        exact ⟨a, b, p.1, p.2, rd_ok R q e, rd_ok R q2 e1, e2, fun u H' n => h u H' (.ofNew R n)⟩
/-- a comparison: its answer, and nothing else -/
theorem cpV_cases {c : Cp} {A : Addr → Prop} {σ : Sg} {r : Rho} {H : Hp} {x y : AV} {v u : V} (Rr : Rl K A σ H r) (q : HV K A σ H r v x) (q2 : HV K A σ H r u y) :
    cpV c x y r = .stuck ∨ ∃ a b k, RepB (Av A σ r) H v a ∧ RepX K (cpR c) (Av A σ r) H u b ∧ cpD c a b = some k ∧ cpV c x y r = .ok k r := by
  have go : ∀ (o o' : Option D), (∀ a, o = some a → RepB (Av A σ r) H v a) → (∀ b, o' = some b → RepX K (cpR c) (Av A σ r) H u b) →
      ∀ res : Ev.R Bool, res = (match (o, o') with
        | (some a, some b) => (match cpD c a b with
          | some k => Ev.R.ok k r
          | none => Ev.R.stuck)
        | _ => Ev.R.stuck) → res = Ev.R.stuck ∨ ∃ a b k, RepB (Av A σ r) H v a ∧ RepX K (cpR c) (Av A σ r) H u b ∧ cpD c a b = some k ∧ res = Ev.R.ok k r := by
    intro o o' h1 h2 res e
    subst e
    cases o with
    | none => exact .inl rfl
    | some a =>
      cases o' with
      | none => exact .inl rfl
      | some b =>
        dsimp only
        cases e2 : cpD c a b with
        | none => exact .inl rfl
        | some k => exact .inr ⟨a, b, k, h1 a rfl, h2 b rfl, e2, rfl⟩
  cases c with
  | inT => exact go (rd r x) (rdr r y) (fun a e => rd_ok Rr q e) (fun b e => rdr_ok Rr q2 e) _ rfl
  | ninT => exact go (rd r x) (rdr r y) (fun a e => rd_ok Rr q e) (fun b e => rdr_ok Rr q2 e) _ rfl
  | _ => exact go (rd r x) (rd r y) (fun a e => rd_ok Rr q e) (fun b e => rd_ok Rr q2 e) _ rfl
end
end Ev
/-! Calls. -/
namespace Ev
open PySem PySem.Spec PyProof.Rows L2

/-! ### the variables handed in -/
theorem mem_of_nodupN {x : Nat} {l : List Nat} (h : nodupN (x :: l) = true) : x ∉ l ∧ nodupN l = true := by
  simp only [nodupN, Bool.and_eq_true, Bool.not_eq_true'] at h
  exact ⟨fun m => by rw [List.contains_iff_mem.mpr m] at h; exact absurd h.1 (by decide), h.2⟩
theorem nodupN_app : ∀ {a b : List Nat}, nodupN (a ++ b) = true → nodupN b = true ∧ ∀ x ∈ a, x ∉ b
  | [], b, h => ⟨h, fun x m => by cases m⟩
  | x :: a, b, h => by
    obtain ⟨h1, h2⟩ := mem_of_nodupN (show nodupN (x :: (a ++ b)) = true from h)
    obtain ⟨h3, h4⟩ := nodupN_app h2
    refine ⟨h3, fun y m => ?_⟩
    rcases List.mem_cons.mp m with e | m
    · rw [e]; exact fun z => h1 (List.mem_append_right _ z)
    · exact h4 y m
section
variable {r : Rho}
theorem argsV_cons {a : AV} {as : List AV} {vs : List SV} (h : argsV r (a :: as) = some vs) : ∃ v ws, vs = v :: ws ∧ argOf r a = some v ∧ argsV r as = some ws := by
  unfold argsV at h
  split at h
  · rename_i v ws h1 h2
    cases h
    exact ⟨v, ws, rfl, h1, h2⟩
  · cases h
theorem argsV_len : ∀ (as : List AV) (vs : List SV), argsV r as = some vs → vs.length = as.length := by
  intro as
  induction as with
  | nil => intro vs h; cases h; rfl
  | cons a as ih =>
    intro vs h
    obtain ⟨v, ws, rfl, h1, h2⟩ := argsV_cons h
    rw [List.length_cons, List.length_cons, ih ws h2]
theorem argsV_get : ∀ (as : List AV) (vs : List SV) (i : Nat) (v : SV), argsV r as = some vs → vs[i]? = some v → ∃ a, as[i]? = some a ∧ argOf r a = some v := by
  intro as
  induction as with
  | nil => intro vs i v h e; cases h; cases e
  | cons a as ih =>
    intro vs i v h e
    obtain ⟨v0, ws, rfl, h1, h2⟩ := argsV_cons h
    cases i with
    | zero => cases e; exact ⟨a, rfl, h1⟩
    | succ i => exact ih ws i v h2 (by simpa using e)
theorem lentOf_mem {a : AV} {x : Nat} : x ∈ lentOf r a ↔ a = .var x ∧ ∃ o m, r[x]? = some (some (.own o m)) := by
  cases a with
  | d y f => simp [lentOf]
  | cst y => simp [lentOf]
  | var i =>
    have ee : lentOf r (.var i) = (match r[i]? with
      | some (some (.own _ _)) => [i]
      | _ => []) := rfl
    rw [ee]
    cases e : r[i]? with
    | none =>
      constructor
      · intro q; cases q
      · rintro ⟨q, o, m, z⟩
        cases q
        rw [e] at z; cases z
    | some q0 =>
      cases q0 with
      | none =>
        constructor
        · intro q; cases q
        · rintro ⟨q, o, m, z⟩
          cases q
          rw [e] at z; cases z
      | some sv =>
        cases sv with
        | own o m =>
          constructor
          · intro q
            have q' : x = i := by simpa using q
            subst q'
            exact ⟨rfl, o, m, e⟩
          · rintro ⟨q, _⟩
            cases q
            simp
        | d y =>
          constructor
          · intro q; cases q
          · rintro ⟨q, o, m, z⟩
            cases q
            rw [e] at z; cases z
        | ro y =>
          constructor
          · intro q; cases q
          · rintro ⟨q, o, m, z⟩
            cases q
            rw [e] at z; cases z
theorem lent_mem {x : Nat} : ∀ (as : List AV), x ∈ lent r as ↔ ∃ j : Nat, as[j]? = some (.var x) ∧ ∃ o m, r[x]? = some (some (.own o m)) := by
  intro as
  induction as with
  | nil => simp [lent]
  | cons a as ih =>
    show x ∈ lentOf r a ++ lent r as ↔ _
    rw [List.mem_append, lentOf_mem, ih]
    constructor
    · rintro (⟨e, h⟩ | ⟨j, e, h⟩)
      · exact ⟨0, by rw [e]; rfl, h⟩
      · exact ⟨j + 1, by simpa using e, h⟩
    · rintro ⟨j, e, h⟩
      cases j with
      | zero => exact .inl ⟨by simpa using e, h⟩
      | succ j => exact .inr ⟨j, by simpa using e, h⟩
theorem lent_uniq {x : Nat} (o : ∃ o m, r[x]? = some (some (.own o m))) : ∀ (as : List AV) (i j : Nat), nodupN (lent r as) = true → as[i]? = some (.var x) → as[j]? = some (.var x) → i = j := by
  intro as
  induction as with
  | nil => intro i j _ e; cases e
  | cons a as ih =>
    intro i j h e1 e2
    obtain ⟨h1, h2⟩ := nodupN_app (show nodupN (lentOf r a ++ lent r as) = true from h)
    have hd : a = .var x → x ∉ lent r as := fun e => h2 x (lentOf_mem.mpr ⟨e, o⟩)
    cases i with
    | zero =>
      cases j with
      | zero => rfl
      | succ j => exact absurd ((lent_mem as).mpr ⟨j, by simpa using e2, o⟩) (hd (by simpa using e1))
    | succ i =>
      cases j with
      | zero => exact absurd ((lent_mem as).mpr ⟨i, by simpa using e1, o⟩) (hd (by simpa using e2))
      | succ j => rw [ih i j h1 (by simpa using e1) (by simpa using e2)]
/-- one place of what comes back -/
def fit1 : SV → SV → Bool
  | .own _ _, .own _ false => true
  | .own _ _, _ => false
  | _, .own _ _ => false
  | _, _ => true
theorem fits_cons {v : SV} {vs : List SV} {os : List SV} (h : fits (v :: vs) os = true) : ∃ o ws, os = o :: ws ∧ fit1 v o = true ∧ fits vs ws = true := by
  cases os with
  | nil => cases v <;> exact absurd h (by simp [fits])
  | cons o ws =>
    refine ⟨o, ws, rfl, ?_⟩
    cases v with
    | d x =>
      cases o with
      | own a b => exact absurd h (by simp [fits])
      | d y => exact ⟨rfl, h⟩
      | ro y => exact ⟨rfl, h⟩
    | ro x =>
      cases o with
      | own a b => exact absurd h (by simp [fits])
      | d y => exact ⟨rfl, h⟩
      | ro y => exact ⟨rfl, h⟩
    | own x m =>
      cases o with
      | own a b =>
        cases b with
        | true => exact absurd h (by simp [fits])
        | false => exact ⟨rfl, h⟩
      | d y => exact absurd h (by simp [fits])
      | ro y => exact absurd h (by simp [fits])
theorem fits_len : ∀ (vs os : List SV), fits vs os = true → vs.length = os.length := by
  intro vs
  induction vs with
  | nil =>
    intro os h
    cases os with
    | nil => rfl
    | cons o os => exact absurd h (by simp [fits])
  | cons v vs ih =>
    intro os h
    obtain ⟨o, ws, rfl, _, h2⟩ := fits_cons h
    rw [List.length_cons, List.length_cons, ih ws h2]
theorem fits_at : ∀ (vs os : List SV) (i : Nat) (v : SV), fits vs os = true → vs[i]? = some v → ∃ o, os[i]? = some o ∧ fit1 v o = true := by
  intro vs
  induction vs with
  | nil => intro os i v _ e; cases e
  | cons v0 vs ih =>
    intro os i v h e
    obtain ⟨o, ws, rfl, h1, h2⟩ := fits_cons h
    cases i with
    | zero => cases e; exact ⟨o, rfl, h1⟩
    | succ i => exact ih ws i v h2 (by simpa using e)
theorem fit1_own {v : SV} {o : Ob} {m : Bool} (h : fit1 v (.own o m) = true) : m = false ∧ ∃ o' m', v = .own o' m' := by
  cases v with
  | own a b =>
    cases m with
    | false => exact ⟨rfl, _, _, rfl⟩
    | true => exact absurd h (by simp [fit1])
  | d y => exact absurd h (by simp [fit1])
  | ro y => exact absurd h (by simp [fit1])
theorem own_fit1 {v : SV} {o : Ob} {m : Bool} (h : fit1 (.own o m) v = true) : ∃ o', v = .own o' false := by
  cases v with
  | own a b =>
    cases b with
    | true => exact absurd h (by simp [fit1])
    | false => exact ⟨a, rfl⟩
  | d y => exact absurd h (by simp [fit1])
  | ro y => exact absurd h (by simp [fit1])
theorem backC_len : ∀ (as : List AV) (os : List SV), (backC r as os).length = r.length := by
  intro as
  induction as with
  | nil => intro os; cases os <;> rfl
  | cons a as ih =>
    intro os
    cases os with
    | nil => cases a <;> rfl
    | cons o os =>
      cases a <;> cases o <;> first | exact ih os | skip
      rename_i i o m
      show (match r[i]? with
        | some (some (.own _ m)) => (backC r as os).set i (some (.own o m))
        | _ => backC r as os).length = _
      split
      · rw [List.length_set]; exact ih os
      · exact ih os
theorem backC_out : ∀ {as : List AV} {os : List SV} {x : Nat}, x ∉ lent r as → (backC r as os)[x]? = r[x]? := by
  intro as
  induction as with
  | nil => intro os x _; cases os <;> rfl
  | cons a as ih =>
    intro os x h
    have h' : x ∉ lent r as := fun z => h (List.mem_append_right _ z)
    cases os with
    | nil => cases a <;> rfl
    | cons o os =>
      cases a <;> cases o <;> first | exact ih h' | skip
      rename_i i o m
      show (match r[i]? with
        | some (some (.own _ m)) => (backC r as os).set i (some (.own o m))
        | _ => backC r as os)[x]? = _
      split
      · rename_i o' m' e
        have ne : i ≠ x := fun z => h (List.mem_append_left _ (by rw [← z]; simp [lentOf, e]))
        rw [List.getElem?_set_ne ne]
        exact ih h'
      · exact ih h'
theorem backC_in : ∀ {as : List AV} {os : List SV} {x j : Nat} {o o' : Ob} {m m' : Bool}, nodupN (lent r as) = true → as[j]? = some (.var x) → r[x]? = some (some (.own o m)) → os[j]? = some (.own o' m') → (backC r as os)[x]? = some (some (.own o' m)) := by
  intro as
  induction as with
  | nil => intro os x j o o' m m' _ e; cases e
  | cons a as ih =>
    intro os x j o o' m m' h e1 e2 e3
    obtain ⟨h1, h2⟩ := nodupN_app (show nodupN (lentOf r a ++ lent r as) = true from h)
    have hx : x < r.length := by
      by_cases hx : x < r.length
      · exact hx
      · rw [List.getElem?_eq_none (by omega)] at e2; cases e2
    cases os with
    | nil => cases e3
    | cons oo os =>
      cases j with
      | zero =>
        have ea : a = .var x := by simpa using e1
        have eo : oo = .own o' m' := by simpa using e3
        subst ea eo
        show (match r[x]? with
          | some (some (.own _ m)) => (backC r as os).set x (some (.own o' m))
          | _ => backC r as os)[x]? = _
        rw [e2]
        rw [List.getElem?_set_self (by rw [backC_len]; exact hx)]
      | succ j =>
        have go := ih (os := os) (x := x) (j := j) h1 (by simpa using e1) e2 (by simpa using e3)
        cases a <;> cases oo <;> first | exact go | skip
        rename_i i o1 m1
        show (match r[i]? with
          | some (some (.own _ m)) => (backC r as os).set i (some (.own o1 m))
          | _ => backC r as os)[x]? = _
        split
        · rename_i o2 m2 e
          have ne : i ≠ x := fun z => by
            subst z
            exact h2 i (by simp [lentOf, e]) ((lent_mem as).mpr ⟨j, by simpa using e1, _, _, e⟩)
          rw [List.getElem?_set_ne ne]
          exact go
        · exact go
end

/-! ### what a call gives -/
/-- what is wanted of a callee's end -/
def PostC (K : PySem.W.Frag) (cl : ClsT) (A : Addr → Prop) (σ : Sg) (r : Rho) (H : Hp) (Q : VK) (E : XK) : CR → Prop
  | .ret d fr outs => ∀ v H', OkE K A σ r H v H' (.d d fr) (outs.map some) → Q v H'
  | .exc c fs => ∀ C dx H', (∀ p o, H p = some o → ¬ Own σ r p → H' p = some o) → (∀ p, lvl (H p) ≤ lvl (H' p)) → ExOk cl A H' c fs C dx → E (.ref C) dx H'
  | .stuck => False
def noMine : List SV → Bool
  | [] => true
  | .own _ true :: _ => false
  | _ :: vs => noMine vs
/-- a def's promise, by what it computes -/
def spF (K : PySem.W.Frag) (cl : ClsT) (g : Sem) : Sp := fun vs H Q E => ∃ (A : Addr → Prop) (args : List SV), Rl K A (vs.map some) H (args.map some) ∧ noMine args = true ∧ PostC K cl A (vs.map some) (args.map some) H Q E (g args)
theorem map_some_get {α : Type} {l : List α} {i : Nat} {x : α} : (l.map some)[i]? = some (some x) ↔ l[i]? = some x := by
  rw [List.getElem?_map]
  cases l[i]? with
  | none => simp
  | some y => simp
theorem map_some_none {α : Type} {l : List α} {i : Nat} : (l.map some)[i]? = some none ↔ False := by
  rw [List.getElem?_map]
  cases l[i]? with
  | none => simp
  | some y => simp
theorem noMine_at : ∀ {vs : List SV} {i : Nat} {o : Ob} {m : Bool}, noMine vs = true → vs[i]? = some (.own o m) → m = false
  | [], i, o, m, _, e => by simp at e
  | v :: vs, i, o, m, h, e => by
    cases i with
    | zero =>
      have e' : v = .own o m := by simpa using e
      subst e'
      cases m with
      | false => rfl
      | true => exact absurd h (by simp [noMine])
    | succ i =>
      refine noMine_at (vs := vs) (i := i) ?_ (by simpa using e)
      cases v with
      | own a b =>
        cases b with
        | true => exact absurd h (by simp [noMine])
        | false => exact h
      | d x => exact h
      | ro x => exact h
theorem argsV_noMine {r : Rho} : ∀ (as : List AV) (vs : List SV), argsV r as = some vs → noMine vs = true := by
  intro as
  induction as with
  | nil => intro vs h; cases h; rfl
  | cons a as ih =>
    intro vs h
    obtain ⟨v, ws, rfl, h1, h2⟩ := argsV_cons h
    have z := ih ws h2
    cases v with
    | d x => exact z
    | ro x => exact z
    | own o m =>
      cases m with
      | false => exact z
      | true =>
        exfalso
        cases a with
        | d y f => cases f <;> cases h1
        | cst y => cases h1
        | var i =>
          have e' : (match r[i]? with
            | some (some (.d x)) => some (.d x)
            | some (some (.own o _)) => some (.own o false)
            | some (some (.ro x)) => some (.ro x)
            | _ => none) = some (SV.own o true) := h1
          split at e' <;> cases e'
section
variable {K : PySem.W.Frag} {cl : ClsT} {A : Addr → Prop} {σ : Sg} {r : Rho} {H : Hp} {vs : List V} {as : List AV} {args : List SV}
/-- an argument that is a variable's own -/
theorem arg_own {a : AV} {o : Ob} {m : Bool} (h : argOf r a = some (.own o m)) : m = false ∧ ∃ x m', a = .var x ∧ r[x]? = some (some (.own o m')) := by
  cases a with
  | d y f => cases f <;> cases h
  | cst y => cases h
  | var i =>
    have e' : (match r[i]? with
      | some (some (.d x)) => some (.d x)
      | some (some (.own o _)) => some (.own o false)
      | some (some (.ro x)) => some (.ro x)
      | _ => none) = some (SV.own o m) := h
    split at e'
    · cases e'
    · rename_i o' m' hh
      cases e'
      exact ⟨rfl, i, m', rfl, hh⟩
    · cases e'
    · cases e'
theorem own_of_args (pa : Paired (fun v a => HV K A σ H r v a) vs as) (ea : argsV r as = some args) {p : Addr} (h : Own (vs.map some) (args.map some) p) : ∃ (j x : Nat) (o : Ob) (m : Bool), as[j]? = some (.var x) ∧ r[x]? = some (some (.own o m)) ∧ args[j]? = some (.own o false) ∧ vs[j]? = some (.ref p) ∧ σ[x]? = some (some (.ref p)) := by
  obtain ⟨j, o, m, e1, e2⟩ := h
  have e1 := map_some_get.mp e1
  have e2 := map_some_get.mp e2
  obtain ⟨a, h1, h2⟩ := argsV_get _ _ _ _ ea e1
  obtain ⟨rfl, x, m', rfl, h3⟩ := arg_own h2
  obtain ⟨y, h4, h5⟩ := L2.paired_get pa e2
  rw [h1] at h4
  cases h4
  exact ⟨j, x, o, m', h1, h3, e1, e2, h5⟩
theorem own_args (pa : Paired (fun v a => HV K A σ H r v a) vs as) (ea : argsV r as = some args) {p : Addr} (h : Own (vs.map some) (args.map some) p) : Own σ r p := by
  obtain ⟨j, x, o, m, h1, h2, h3, h4, h5⟩ := own_of_args pa ea h
  exact ⟨x, o, m, h2, h5⟩
/-- the callee's state -/
theorem rl_args (R : Rl K A σ H r) (pa : Paired (fun v a => HV K A σ H r v a) vs as) (ea : argsV r as = some args) (nd : nodupN (lent r as) = true) : Rl K (Av A σ r) (vs.map some) H (args.map some) := by
  have oo : ∀ p, Own (vs.map some) (args.map some) p → Own σ r p := fun p => own_args pa ea
  have sub : ∀ p, Av (Av A σ r) (vs.map some) (args.map some) p → Av A σ r p := fun p z => z.elim id fun z => .inr (oo p z)
  refine ⟨?_, ?_, ?_, ?_, ?_, R.av⟩
  · rw [List.length_map, List.length_map, argsV_len _ _ ea, Paired.length pa]
  · intro j x e
    have e := map_some_get.mp e
    obtain ⟨a, h1, h2⟩ := argsV_get _ _ _ _ ea e
    obtain ⟨v, h3, h4⟩ : ∃ v, vs[j]? = some v ∧ HV K A σ H r v a := by
      have hl : j < vs.length := by
        rw [Paired.length pa]
        exact (List.getElem?_eq_some_iff.mp h1).1
      obtain ⟨y, q1, q2⟩ := L2.paired_get pa (List.getElem?_eq_getElem hl)
      rw [h1] at q1
      cases q1
      exact ⟨_, List.getElem?_eq_getElem hl, q2⟩
    refine ⟨v, map_some_get.mpr h3, ?_⟩
    have go : Rep (Av A σ r) H v x := by
      cases a with
      | cst y => cases h2
      | d y f =>
        cases f with
        | true => cases h2
        | false =>
          cases h2
          exact h4
      | var i =>
        have e' : (match r[i]? with
          | some (some (.d x)) => some (.d x)
          | some (some (.own o _)) => some (.own o false)
          | some (some (.ro x)) => some (.ro x)
          | _ => none) = some (SV.d x) := h2
        have h4 : σ[i]? = some (some v) := h4
        split at e'
        · rename_i y hy
          cases e'
          obtain ⟨u, q1, q2⟩ := R.d i _ hy
          rw [h4] at q1
          cases q1
          exact q2
        · cases e'
        · cases e'
        · cases e'
    exact go.mono sub
  · intro j o m e
    have e := map_some_get.mp e
    obtain ⟨a, h1, h2⟩ := argsV_get _ _ _ _ ea e
    obtain ⟨rfl, x, m', rfl, h3⟩ := arg_own h2
    have hl : j < vs.length := by
      rw [Paired.length pa]
      exact (List.getElem?_eq_some_iff.mp h1).1
    obtain ⟨y, q1, q2⟩ := L2.paired_get pa (List.getElem?_eq_getElem hl)
    rw [h1] at q1
    cases q1
    have q2 : σ[x]? = some (some vs[j]) := q2
    obtain ⟨p, s1, s2, s3⟩ := R.own x _ _ h3
    rw [q2] at s1
    refine ⟨p, ?_, s2.mono sub, fun z => absurd z (by decide)⟩
    rw [map_some_get, List.getElem?_eq_getElem hl]
    exact congrArg some (Option.some.inj (Option.some.inj s1))
  · intro j x e
    have e := map_some_get.mp e
    obtain ⟨a, h1, h2⟩ := argsV_get _ _ _ _ ea e
    have hl : j < vs.length := by
      rw [Paired.length pa]
      exact (List.getElem?_eq_some_iff.mp h1).1
    obtain ⟨y, q1, q2⟩ := L2.paired_get pa (List.getElem?_eq_getElem hl)
    rw [h1] at q1
    cases q1
    refine ⟨vs[j], map_some_get.mpr (List.getElem?_eq_getElem hl), ?_⟩
    cases a with
    | cst y => cases h2
    | d y f => cases f <;> cases h2
    | var i =>
      have e' : (match r[i]? with
        | some (some (.d x)) => some (.d x)
        | some (some (.own o _)) => some (.own o false)
        | some (some (.ro x)) => some (.ro x)
        | _ => none) = some (SV.ro x) := h2
      have q2 : σ[i]? = some (some vs[j]) := q2
      split at e'
      · cases e'
      · cases e'
      · rename_i y hy
        cases e'
        obtain ⟨u, s1, ro⟩ := R.ro i _ hy
        rw [q2] at s1
        have s1 : vs[j] = u := by
          cases s1
          rfl
        rw [s1]
        exact ro.mono sub
      · cases e'
  · intro i j o m o' m' p e1 e2 e3 e4
    have e1 := map_some_get.mp e1
    have e2 := map_some_get.mp e2
    have e3 := map_some_get.mp e3
    have e4 := map_some_get.mp e4
    obtain ⟨a, h1, h2⟩ := argsV_get _ _ _ _ ea e1
    obtain ⟨_, x, _, rfl, h3⟩ := arg_own h2
    obtain ⟨b, g1, g2⟩ := argsV_get _ _ _ _ ea e2
    obtain ⟨_, y, _, rfl, g3⟩ := arg_own g2
    obtain ⟨_, q1, q2⟩ := L2.paired_get pa e3
    rw [h1] at q1
    cases q1
    obtain ⟨_, w1, w2⟩ := L2.paired_get pa e4
    rw [g1] at w1
    cases w1
    have xy : x = y := R.inj x y _ _ _ _ p h3 g3 q2 w2
    subst xy
    exact lent_uniq ⟨_, _, h3⟩ as i j nd h1 g1
/-- .. and the caller's behind it: what is kept from is A' -/
theorem rl_backC {A' Ac : Addr → Prop} {H' : Hp} {outs : List SV} (R : Rl K A σ H r) (pa : Paired (fun v a => HV K A σ H r v a) vs as) (ea : argsV r as = some args) (nd : nodupN (lent r as) = true)
    (ft : fits args outs = true) (s : Stp (vs.map some) (args.map some) (outs.map some) H H') (Rc : Rl K Ac (vs.map some) H' (outs.map some))
    (hA : ∀ p, A' p → A p ∨ H p = none) (hal : Allo A' H') (hc : ∀ p, A' p → Ac p) (ho : ∀ p, Own σ r p → Ac p) : Stp σ r (backC r as outs) H H' ∧ Rl K A' σ H' (backC r as outs) := by
  have oo : ∀ p, Own (vs.map some) (args.map some) p → Own σ r p := fun p => own_args pa ea
  have at_ : ∀ x : Nat, (x ∈ lent r as ∧ ∃ (j : Nat) (o : Ob) (m : Bool) (o' : Ob), as[j]? = some (AV.var x) ∧ r[x]? = some (some (SV.own o m)) ∧ outs[j]? = some (SV.own o' false) ∧ (backC r as outs)[x]? = some (some (SV.own o' m))) ∨ (x ∉ lent r as ∧ (backC r as outs)[x]? = r[x]?) := fun x => by
    by_cases hx : x ∈ lent r as
    · refine .inl ⟨hx, ?_⟩
      obtain ⟨j, h1, o, m, h2⟩ := (lent_mem as).mp hx
      have hl : j < args.length := by
        rw [argsV_len _ _ ea]
        exact (List.getElem?_eq_some_iff.mp h1).1
      obtain ⟨a, g1, g2⟩ := argsV_get _ _ _ _ ea (List.getElem?_eq_getElem hl)
      rw [h1] at g1
      cases g1
      have g3 : args[j] = .own o false := by
        have e' : (match r[x]? with
          | some (some (.d x)) => some (.d x)
          | some (some (.own o _)) => some (.own o false)
          | some (some (.ro x)) => some (.ro x)
          | _ => none) = some args[j] := g2
        rw [h2] at e'
        exact (Option.some.inj e').symm
      obtain ⟨ov, q1, q2⟩ := fits_at _ _ j _ ft (List.getElem?_eq_getElem hl)
      rw [g3] at q2
      obtain ⟨o', rfl⟩ := own_fit1 q2
      exact ⟨j, o, m, o', h1, h2, q1, backC_in nd h1 h2 q1⟩
    · exact .inr ⟨hx, backC_out hx⟩
  have st : Stp σ r (backC r as outs) H H' := by
    refine ⟨fun p o e n => s.keep p o e fun z => n (oo p z), s.live, fun i o m e => ?_⟩
    rcases at_ i with ⟨_, j, o1, m1, o', _, h2, _, h4⟩ | ⟨_, h⟩
    · rw [h4] at e
      cases e
      exact ⟨o1, h2⟩
    · rw [h] at e
      exact ⟨o, e⟩
  have k1 : ∀ p o, H p = some o → ¬ Av A σ r p → H' p = some o := fun p o e n => st.keep p o e fun z => n (.inr z)
  have k2 : ∀ p, Av A' σ (backC r as outs) p → Av A σ r p ∨ H p = none := fun p z => z.elim (fun z => (hA p z).imp .inl id) fun z => .inl (.inr (st.own p z))
  have sub : ∀ p, Av A' σ (backC r as outs) p → Av Ac (vs.map some) (outs.map some) p := fun p z => .inl (z.elim (hc p) fun z => ho p (st.own p z))
  refine ⟨st, ?_, ?_, ?_, ?_, ?_, hal⟩
  · rw [backC_len]; exact R.len
  · intro i x e
    have e' : r[i]? = some (some (.d x)) := by
      rcases at_ i with ⟨_, j, o1, m1, o', _, h2, _, h4⟩ | ⟨_, h⟩
      · rw [h4] at e
        cases e
      · rw [← h]; exact e
    obtain ⟨v, h1, h2⟩ := R.d i x e'
    exact ⟨v, h1, h2.step k1 k2⟩
  · intro i o m e
    rcases at_ i with ⟨_, j, o1, m1, o', h1, h2, h3, h4⟩ | ⟨hx, h⟩
    · rw [h4] at e
      cases e
      obtain ⟨p, q1, q2, q3⟩ := R.own i _ _ h2
      refine ⟨p, q1, ?_, fun z y => (hA p y).elim (q3 z) (R.own_some ⟨i, o1, m, h2, q1⟩)⟩
      obtain ⟨p', w1, w2, _⟩ := Rc.own j _ _ (map_some_get.mpr h3)
      have w1 := map_some_get.mp w1
      obtain ⟨_, u1, u2⟩ := L2.paired_get pa w1
      rw [h1] at u1
      cases u1
      have u2 : σ[i]? = some (some (.ref p')) := u2
      rw [q1] at u2
      cases u2
      exact w2.mono sub
    · rw [h] at e
      obtain ⟨p, q1, q2, q3⟩ := R.own i _ _ e
      have own : Own σ r p := ⟨i, o, m, e, q1⟩
      refine ⟨p, q1, q2.step (fun q u e1 z => ?_) k2, fun z y => (hA p y).elim (q3 z) (R.own_some own)⟩
      rcases z with z | z
      · subst z
        refine s.keep _ _ e1 fun z => ?_
        obtain ⟨j, x, o2, m2, h1, h2, h3, h4, h5⟩ := own_of_args pa ea z
        have ix : i = x := R.inj i x _ _ _ _ _ e h2 q1 h5
        subst ix
        exact hx ((lent_mem as).mpr ⟨j, h1, _, _, h2⟩)
      · exact k1 q u e1 z
  · intro i x e
    have e' : r[i]? = some (some (.ro x)) := by
      rcases at_ i with ⟨_, j, o1, m1, o', _, h2, _, h4⟩ | ⟨_, h⟩
      · rw [h4] at e
        cases e
      · rw [← h]; exact e
    obtain ⟨v, h1, h2⟩ := R.ro i x e'
    exact ⟨v, h1, h2.step k1 k2⟩
  · intro i j o m o' m' p e1 e2 e3 e4
    obtain ⟨_, z1⟩ := st.slot i _ _ e1
    obtain ⟨_, z2⟩ := st.slot j _ _ e2
    exact R.inj i j _ _ _ _ p z1 z2 e3 e4
theorem wipeR_len : ∀ (l : List Nat) (r : Rho), (wipeR r l).length = r.length
  | [], r => rfl
  | v :: l, r => by
    show ((wipeR r l).set v none).length = _
    rw [List.length_set, wipeR_len l r]
theorem wipeR_get : ∀ (l : List Nat) (r : Rho) (i : Nat) (sv : SV), (wipeR r l)[i]? = some (some sv) → i ∉ l ∧ r[i]? = some (some sv)
  | [], r, i, sv, h => ⟨by simp, h⟩
  | v :: l, r, i, sv, h => by
    have h : ((wipeR r l).set v none)[i]? = some (some sv) := h
    rw [List.getElem?_set] at h
    split at h
    · split at h <;> cases h
    · rename_i ne
      obtain ⟨h1, h2⟩ := wipeR_get l r i sv h
      refine ⟨fun z => ?_, h2⟩
      rcases List.mem_cons.mp z with z | z
      · exact ne z.symm
      · exact h1 z
/-- .. behind an error -/
theorem rl_wipeC {H' : Hp} (R : Rl K A σ H r) (pa : Paired (fun v a => HV K A σ H r v a) vs as) (ea : argsV r as = some args)
    (keep : ∀ p o, H p = some o → ¬ Own (vs.map some) (args.map some) p → H' p = some o) (live : ∀ p, lvl (H p) ≤ lvl (H' p)) : Stp σ r (wipeR r (lent r as)) H H' ∧ Rl K A σ H' (wipeR r (lent r as)) := by
  have oo : ∀ p, Own (vs.map some) (args.map some) p → Own σ r p := fun p => own_args pa ea
  have st : Stp σ r (wipeR r (lent r as)) H H' := ⟨fun p o e n => keep p o e fun z => n (oo p z), live, fun i o m e => ⟨o, (wipeR_get _ _ _ _ e).2⟩⟩
  have k1 : ∀ p o, H p = some o → ¬ Av A σ r p → H' p = some o := fun p o e n => st.keep p o e fun z => n (.inr z)
  have k2 : ∀ p, Av A σ (wipeR r (lent r as)) p → Av A σ r p ∨ H p = none := fun p z => .inl (z.imp id (st.own p))
  refine ⟨st, ?_, ?_, ?_, ?_, ?_, fun p z => Nat.le_trans (R.al p z) (live p)⟩
  · rw [wipeR_len]; exact R.len
  · intro i x e
    obtain ⟨v, h1, h2⟩ := R.d i x (wipeR_get _ _ _ _ e).2
    exact ⟨v, h1, h2.step k1 k2⟩
  · intro i o m e
    obtain ⟨hx, e⟩ := wipeR_get _ _ _ _ e
    obtain ⟨p, q1, q2, q3⟩ := R.own i _ _ e
    refine ⟨p, q1, q2.step (fun q u e1 z => ?_) k2, q3⟩
    rcases z with z | z
    · subst z
      refine keep _ _ e1 fun z => ?_
      obtain ⟨j, x, o2, m2, h1, h2, h3, h4, h5⟩ := own_of_args pa ea z
      have ix : i = x := R.inj i x _ _ _ _ _ e h2 q1 h5
      subst ix
      exact hx ((lent_mem as).mpr ⟨j, h1, _, _, h2⟩)
    · exact k1 q u e1 z
  · intro i x e
    obtain ⟨v, h1, h2⟩ := R.ro i x (wipeR_get _ _ _ _ e).2
    exact ⟨v, h1, h2.step k1 k2⟩
  · intro i j o m o' m' p e1 e2 e3 e4
    exact R.inj i j _ _ _ _ p (wipeR_get _ _ _ _ e1).2 (wipeR_get _ _ _ _ e2).2 e3 e4
/-- a call: the caller's wish gives the callee's -/
theorem call_post {W : WX} {Q : VK} {g : Sem} (R : Rl K A σ H r) (pa : Paired (fun v a => HV K A σ H r v a) vs as) (h : PostE K cl W A σ r H Q (callV g as r)) : spF K cl g vs H Q (WE W σ) := by
  unfold callV at h
  cases ea : argsV r as with
  | none => rw [ea] at h; exact h.elim
  | some args =>
    rw [ea] at h
    dsimp only at h
    split at h
    · rename_i nd
      refine ⟨Av A σ r, args, rl_args R pa ea nd, argsV_noMine _ _ ea, ?_⟩
      cases eg : g args with
      | stuck => rw [eg] at h; exact h.elim
      | exc c fs =>
        rw [eg] at h
        intro C dx H' keep live x
        obtain ⟨st, R'⟩ := rl_wipeC R pa ea keep live
        exact h C dx H' st R' (x.mono fun p z => z.imp id (st.own p))
      | ret d fr outs =>
        rw [eg] at h
        dsimp only at h
        split at h
        · rename_i ft
          intro v H' ok
          refine h v H' ?_
          obtain ⟨s, ok⟩ := ok
          cases fr with
          | false =>
            obtain ⟨Rc, rv⟩ := ok
            obtain ⟨st, R'⟩ := rl_backC R pa ea nd ft s Rc (A' := A) (fun p z => .inl z) (fun p z => Nat.le_trans (R.al p z) (s.live p)) (fun p z => .inl z) (fun p z => .inr z)
            have rv : Rep (Av (Av A σ r) (vs.map some) (outs.map some)) H' v d := rv
            exact ⟨st, R', rv.mono fun p z => .inl (z.imp id (st.own p))⟩
          | true =>
            obtain ⟨p, e, hp, no, Rc, o⟩ := ok
            obtain ⟨st, R'⟩ := rl_backC R pa ea nd ft s Rc (A' := And1 A p) (fun q z => z.imp id (fun z => by rw [z]; exact hp)) (fun q z => Rc.al q (z.imp .inl id)) (fun q z => z.imp .inl id) (fun q z => .inl (.inr z))
            refine ⟨st, p, e, hp, fun z => R.own_some (st.own p z) hp, R', o.mono fun q z => ?_⟩
            rcases z with (z | z) | z
            · exact .inl (.inl (.inl z))
            · exact .inl (.inr z)
            · exact .inl (.inl (.inr (st.own q z)))
        · exact h.elim
    · exact h.elim
end
end Ev
/-! The check of a program against its text in the small language; expressions keep what they compute. -/
namespace Ev
open PySem PySem.Spec PyProof.Rows L2

/-- a class of errors: which, its name, its fields -/
abbrev Exn := List (Nat × Str × List Str)
/-- defs known where an error is handled: what kind an error is, by its class; whether a thing is a whole number -/
structure Hot where
  kin : List (Nat × List Str)
  who : List Nat
structure Cg where
  N : List Str
  fna : List Str
  exn : Exn
  con : List (Str × D)
  hot : Hot
structure Sc where
  raw : Scope
  rel : Scope
def kd (s : Sc) (x : Str) : Option NameKind := s.rel.names.lookup x
def isVis (s : Sc) (x : Str) : Bool := match kd s x with
  | some .local => true
  | some .cell => true
  | some .free => true
  | _ => false
def isGl (s : Sc) (x : Str) : Bool := match kd s x with
  | some .globalImplicit => true
  | _ => false
def isLoc (s : Sc) (x : Str) : Bool := match kd s x with
  | some .local => true
  | _ => false
def canSet (s : Sc) (x : Str) : Bool := match kd s x with
  | some .local => true
  | some .cell => (match s.raw.names.lookup x with
    | some .cell => true
    | _ => false)
  | _ => false
def sDebug : Str := "__debug__"
def sClassd : Str := "__classdict__"
def nmOk (x : Str) : Bool := !(x == sDebug) && !(x == sClassd)
def atN (G : Cg) (i : Nat) (x : Str) : Bool := match G.N[i]? with
  | some y => decide (y = x)
  | none => false
def isStar : Expr → Bool
  | .Starred _ _ => true
  | _ => false
def isSlice : Expr → Bool
  | .Slice _ _ _ _ => true
  | _ => false
def isComp : Expr → Bool
  | .ListComp _ _ _ _ => true
  | .SetComp _ _ _ _ => true
  | .DictComp _ _ _ _ _ => true
  | _ => false
def isCall0 : Expr → Bool
  | .Call (.Name _ _) [] [] _ => true
  | _ => false
def isSetE : Expr → Bool
  | .Set _ _ _ => true
  | _ => false
def isTupE : Expr → Bool
  | .Tuple _ _ _ => true
  | _ => false
def hasCon : List (Str × D) → Str → D → Bool
  | [], _, _ => false
  | (y, e) :: r, x, d => (decide (y = x) && sameD e d) || hasCon r x d
def tgOwn : Tg → Expr → List (Str × Nat)
  | .one i, .Name x _ => [(x, i)]
  | .two i j, .Tuple [.Name x _, .Name y _] _ _ => [(x, i), (y, j)]
  | _, _ => []
def chkTg (G : Cg) (s : Sc) : Tg → Expr → Bool
  | .one i, .Name x _ => atN G i x && canSet s x
  | .two i j, .Tuple [.Name x _, .Name y _] _ _ => atN G i x && canSet s x && atN G j y && canSet s y && decide (i ≠ j)
  | _, _ => false
def biN : Bi → Str
  | .tuple => "tuple"
  | .list => "list"
  | .sorted => "sorted"
  | .max1 => "max"
  | .min1 => "min"
  | .sum => "sum"
  | .all => "all"
  | .any => "any"
  | .int => "int"
  | .str => "str"
  | .lenSet => "len"
  | .sortedSet => "sorted"
def biY : Bi → Bool
  | .lenSet => false
  | .sortedSet => false
  | _ => true
def bi2N : Bi2 → Str
  | .max2 => "max"
  | .min2 => "min"
def tyN : Ty → Str
  | .int => "int"
  | .bool => "bool"
  | .tuple => "tuple"
  | .list => "list"
  | .str => "str"
  | .dict => "dict"
def rngN : Bool → Str
  | true => "tuple"
  | false => "list"
def sLen : Str := "len"
def sIsi : Str := "isinstance"
def sRange : Str := "range"
def sEnum : Str := "enumerate"
def sGet : Str := "get"
def sIndex : Str := "index"
def mmN : Mm → Str
  | .append => "append"
  | .extend => "extend"
  | .remove => "remove"
  | .pop0 => "pop"
  | .pop1 => "pop"
def mmY : Mm → Bool
  | .remove => false
  | _ => true
def bltN : List Str := [sLen, sIsi, sRange, sEnum, "tuple", "list", "sorted", "max", "min", "sum", "all", "any", "int", "str", "bool", "dict", "set"]
def few (es : List Expr) : Bool := decide (es.length < 29)
def isDis (c : Cp) : Bool := match c with
  | .inD => true
  | .ninD => true
  | _ => false
mutual
def chkE (G : Cg) : E → Sc → Expr → Bool
  | .var i, s, x0 => match x0 with
    | .Name x _ => isVis s x && nmOk x && atN G i x
    | _ => false
  | .int i, _, x0 => match x0 with
    | .Constant (.int j) _ _ => decide (i = j)
    | _ => false
  | .str i, _, x0 => match x0 with
    | .Constant (.str j) _ _ => decide (i = j)
    | _ => false
  | .bl i, _, x0 => match x0 with
    | .Constant (.bool j) _ _ => i == j
    | _ => false
  | .non, _, x0 => match x0 with
    | .Constant .none _ _ => true
    | _ => false
  | .glob x d, s, x0 => match x0 with
    | .Name y _ => decide (x = y) && isGl s y && nmOk y && hasCon G.con x d
    | _ => false
  | .op2 o a b, s, x0 => match x0 with
    | .BinOp l op r _ => decide (op = opr o) && chkE G a s l && chkE G b s r
    | _ => false
  | .neg a, s, x0 => match x0 with
    | .UnaryOp .USub l _ => chkE G a s l
    | _ => false
  | .not a, s, x0 => match x0 with
    | .UnaryOp .Not l _ => chkE G a s l
    | _ => false
  | .and a b, s, x0 => match x0 with
    | .BoolOp .And (l :: r :: rest) pos => chkE G a s l && (match rest with
      | [] => chkE G b s r
      | _ :: _ => chkE G b s (.BoolOp .And (r :: rest) pos))
    | _ => false
  | .or a b, s, x0 => match x0 with
    | .BoolOp .Or (l :: r :: rest) pos => chkE G a s l && (match rest with
      | [] => chkE G b s r
      | _ :: _ => chkE G b s (.BoolOp .Or (r :: rest) pos))
    | _ => false
  | .cmp c a b, s, x0 => match x0 with
    | .Compare l [op] [r] _ => decide (op = cpo c) && chkE G a s l && chkE G b s r && !behindInMarks op r
    | _ => false
  | .chain c c' a b d, s, x0 => match x0 with
    | .Compare l [op, op'] [r, r'] _ => decide (op = cpo c) && decide (op' = cpo c') && chkE G a s l && chkE G b s r && chkE G d s r' && !lastMarks [op, op'] [r, r']
    | _ => false
  | .ite c a b, s, x0 => match x0 with
    | .IfExp x l r _ => chkE G c s x && chkE G a s l && chkE G b s r
    | _ => false
  | .tup es, s, x0 => match x0 with
    | .Tuple ls _ _ => chkEs G es s ls && few ls
    | _ => false
  | .lst es, s, x0 => match x0 with
    | .List ls _ => chkEs G es s ls && few ls
    | _ => false
  | .dict0, _, x0 => match x0 with
    | .Dict [] [] _ => true
    | _ => false
  | .ix a b, s, x0 => match x0 with
    | .Subscript l r _ => chkE G a s l && chkE G b s r && !isSlice r
    | _ => false
  | .dix a b, s, x0 => match x0 with
    | .Subscript l r _ => chkE G a s l && chkE G b s r && !isSlice r
    | _ => false
  | .sl a lo hi, s, x0 => match x0 with
    | .Subscript l (.Slice x y none _) _ => chkE G a s l && chkO G lo s x && chkO G hi s y
    | _ => false
  | .rev a, s, x0 => match x0 with
    | .Subscript l (.Slice none none (some (.UnaryOp .USub (.Constant (.int 1) _ _) _)) _) _ => chkE G a s l
    | _ => false
  | .len a, s, x0 => match x0 with
    | .Call (.Name x _) [l] [] _ => decide (x = sLen) && isGl s x && !isStar l && chkE G a s l
    | _ => false
  | .bi b a, s, x0 => match x0 with
    | .Call (.Name x _) [l] [] _ => biY b && decide (x = biN b) && isGl s x && !isStar l && chkE G a s l
    | _ => false
  | .bi2 b a c, s, x0 => match x0 with
    | .Call (.Name x _) [l, r] [] _ => decide (x = bi2N b) && isGl s x && !isStar l && !isStar r && chkE G a s l && chkE G c s r
    | _ => false
  | .isi a t, s, x0 => match x0 with
    | .Call (.Name x _) [l, .Name y _] [] _ => decide (x = sIsi) && isGl s x && decide (y = tyN t) && isGl s y && !isStar l && chkE G a s l
    | _ => false
  | .dget1 a k, s, x0 => match x0 with
    | .Call (.Attribute l nm apos) [r] [] cpos => decide (nm = sGet) && (apos.endLine == cpos.line) && !isStar r && !isCall0 l && chkE G a s l && chkE G k s r
    | _ => false
  | .mm m i es, s, x0 => match x0 with
    | .Call (.Attribute (.Name x _) nm apos) ls [] cpos => isVis s x && nmOk x && atN G i x && mmY m && decide (nm = mmN m) && (apos.endLine == cpos.line) && few ls && chkEs G es s ls
    | _ => false
  | .call f es, s, x0 => match x0 with
    | .Call (.Name x _) (l :: ls) [] _ => (match G.fna[f]? with
        | some y => decide (y = x)
        | none => false) && isGl s x && nmOk x && chkEs G es s (l :: ls)
    | _ => false
  | .callF f e es, s, x0 => match x0 with
    | .Call (.Name x _) (l :: ls) [] _ => (match G.fna[f]? with
        | some y => decide (y = x)
        | none => false) && isGl s x && nmOk x && !isStar l && chkE G e s l && chkEs G es s ls
    | _ => false
  | .comp tg it cond elt, s, x0 => match x0 with
    | .ListComp x [⟨t, i, ifs, 0⟩] scope _ => chkIt G it s t i && !isSetE i && blkC G.N s.rel scope (tgOwn tg t) && chkTg G ⟨scope, relS scope s.rel⟩ tg t
        && chkC G cond ⟨scope, relS scope s.rel⟩ ifs && chkE G elt ⟨scope, relS scope s.rel⟩ x
    | _ => false
  | .dget2 a k z, s, x0 => match x0 with
    | .Call (.Attribute l nm apos) [r, t] [] cpos => decide (nm = sGet) && (apos.endLine == cpos.line) && !isStar r && !isStar t && !isCall0 l && chkE G a s l && chkE G k s r && chkE G z s t
    | _ => false
  | .td o i es, s, x0 => match o, es, x0 with
    | .list, .nil, .Call (.Name y _) [.Name x _] [] _ => decide (y = biN .list) && isGl s y && isVis s x && nmOk x && atN G i x
    | .sorted, .nil, .Call (.Name y _) [.Name x _] [] _ => decide (y = biN .sorted) && isGl s y && isVis s x && nmOk x && atN G i x
    | .isin, .cons e .nil, .Compare l [.In] [.Name x _] _ => isVis s x && nmOk x && atN G i x && chkE G e s l
    | .notin, .cons e .nil, .Compare l [.NotIn] [.Name x _] _ => isVis s x && nmOk x && atN G i x && chkE G e s l
    | .get, .cons e .nil, .Subscript (.Name x _) l _ => isVis s x && nmOk x && atN G i x && chkE G e s l && !isSlice l
    | _, _, _ => false
  | .mr m a b, s, x0 => match m, x0 with
    | .lindex, .Call (.Attribute l nm apos) [r] [] cpos => decide (nm = sIndex) && (apos.endLine == cpos.line) && !isStar r && !isCall0 l && chkE G a s l && chkE G b s r
    | _, _ => false
  | .inR1 neg x b, s, x0 => match neg, x0 with
    | false, .Compare l [.In] [.Call (.Name y _) [r] [] _] _ => decide (y = sRange) && isGl s y && !isStar r && chkE G x s l && chkE G b s r
    | true, .Compare l [.NotIn] [.Call (.Name y _) [r] [] _] _ => decide (y = sRange) && isGl s y && !isStar r && chkE G x s l && chkE G b s r
    | _, _ => false
  | .inR2 neg x a b, s, x0 => match neg, x0 with
    | false, .Compare l [.In] [.Call (.Name y _) [r, t] [] _] _ => decide (y = sRange) && isGl s y && !isStar r && !isStar t && chkE G x s l && chkE G a s r && chkE G b s t
    | true, .Compare l [.NotIn] [.Call (.Name y _) [r, t] [] _] _ => decide (y = sRange) && isGl s y && !isStar r && !isStar t && chkE G x s l && chkE G a s r && chkE G b s t
    | _, _ => false
  | .rng1 t b, s, x0 => match x0 with
    | .Call (.Name x _) [.Call (.Name y _) [l] [] _] [] _ => decide (x = rngN t) && isGl s x && decide (y = sRange) && isGl s y && !isStar l && chkE G b s l
    | _ => false
  | .rng2 t a b, s, x0 => match x0 with
    | .Call (.Name x _) [.Call (.Name y _) [l, r] [] _] [] _ => decide (x = rngN t) && isGl s x && decide (y = sRange) && isGl s y && !isStar l && !isStar r && chkE G a s l && chkE G b s r
    | _ => false
def chkEs (G : Cg) : Es → Sc → List Expr → Bool
  | .nil, _, [] => true
  | .cons e es, s, l :: ls => !isStar l && chkE G e s l && chkEs G es s ls
  | _, _, _ => false
def chkO (G : Cg) : Es → Sc → Option Expr → Bool
  | .nil, _, none => true
  | .cons e .nil, s, some l => chkE G e s l
  | _, _, _ => false
def chkC (G : Cg) : Es → Sc → List Expr → Bool
  | .nil, _, [] => true
  | .cons e .nil, s, [l] => chkE G e s l
  | _, _, _ => false
def chkIt (G : Cg) : It → Sc → Expr → Expr → Bool
  | .seq e, s, _, l => chkE G e s l
  | .range es, s, x0, x1 => match x0, x1 with
    | _, .Call (.Name x _) ls [] _ => decide (x = sRange) && isGl s x && decide (ls.length ≤ 2) && chkEs G es s ls
    | _, _ => false
  | .enum e, s, x0, x1 => match x0, x1 with
    | t, .Call (.Name x _) [l] [] _ => decide (x = sEnum) && isGl s x && isTupE t && !isStar l && chkE G e s l
    | _, _ => false
end
end Ev
/-! What the check has seen (printed by inv.py). -/
namespace Ev
open PySem PySem.Spec PyProof.Rows L2
theorem chk_var {G : Cg} {s : Sc} {ex : Expr} {i : Nat} (h : chkE G (.var i) s ex = true) : ∃ (x : Str) (p : Pos), ex = .Name x p ∧ isVis s x = true ∧ nmOk x = true ∧ atN G i x = true := by
  unfold chkE at h
  split at h
  · (try simp only [Bool.and_eq_true, decide_eq_true_eq, Bool.not_eq_true', Bool.not_eq_false', beq_iff_eq] at h); obtain ⟨⟨h1, h2⟩, h3⟩ := h; exact ⟨_, _, rfl, h1, h2, h3⟩
  · cases h
theorem chk_int {G : Cg} {s : Sc} {ex : Expr} {i : Int} (h : chkE G (.int i) s ex = true) : ∃ (k : Nat) (p : Pos), ex = .Constant (.int i) k p := by
  unfold chkE at h
  split at h
  · (try simp only [Bool.and_eq_true, decide_eq_true_eq, Bool.not_eq_true', Bool.not_eq_false', beq_iff_eq] at h); obtain rfl := h; exact ⟨_, _, rfl⟩
  · cases h
theorem chk_str {G : Cg} {s : Sc} {ex : Expr} {i : Str} (h : chkE G (.str i) s ex = true) : ∃ (k : Nat) (p : Pos), ex = .Constant (.str i) k p := by
  unfold chkE at h
  split at h
  · (try simp only [Bool.and_eq_true, decide_eq_true_eq, Bool.not_eq_true', Bool.not_eq_false', beq_iff_eq] at h); obtain rfl := h; exact ⟨_, _, rfl⟩
  · cases h
theorem chk_bl {G : Cg} {s : Sc} {ex : Expr} {i : Bool} (h : chkE G (.bl i) s ex = true) : ∃ (k : Nat) (p : Pos), ex = .Constant (.bool i) k p := by
  unfold chkE at h
  split at h
  · (try simp only [Bool.and_eq_true, decide_eq_true_eq, Bool.not_eq_true', Bool.not_eq_false', beq_iff_eq] at h); obtain rfl := h; exact ⟨_, _, rfl⟩
  · cases h
theorem chk_non {G : Cg} {s : Sc} {ex : Expr}  (h : chkE G (.non) s ex = true) : ∃ (k : Nat) (p : Pos), ex = .Constant .none k p := by
  unfold chkE at h
  split at h
  ·  exact ⟨_, _, rfl⟩
  · cases h
theorem chk_glob {G : Cg} {s : Sc} {ex : Expr} {x : Str} {d : D} (h : chkE G (.glob x d) s ex = true) : ∃ (p : Pos), ex = .Name x p ∧ isGl s x = true ∧ nmOk x = true ∧ hasCon G.con x d = true := by
  unfold chkE at h
  split at h
  · (try simp only [Bool.and_eq_true, decide_eq_true_eq, Bool.not_eq_true', Bool.not_eq_false', beq_iff_eq] at h); obtain ⟨⟨⟨rfl, h1⟩, h2⟩, h3⟩ := h; exact ⟨_, rfl, h1, h2, h3⟩
  · cases h
theorem chk_op2 {G : Cg} {s : Sc} {ex : Expr} {o : Op2} {a b : E} (h : chkE G (.op2 o a b) s ex = true) : ∃ (l r : Expr) (p : Pos), ex = .BinOp l (opr o) r p ∧ chkE G a s l = true ∧ chkE G b s r = true := by
  unfold chkE at h
  split at h
  · (try simp only [Bool.and_eq_true, decide_eq_true_eq, Bool.not_eq_true', Bool.not_eq_false', beq_iff_eq] at h); obtain ⟨⟨rfl, h1⟩, h2⟩ := h; exact ⟨_, _, _, rfl, h1, h2⟩
  · cases h
theorem chk_neg {G : Cg} {s : Sc} {ex : Expr} {a : E} (h : chkE G (.neg a) s ex = true) : ∃ (l : Expr) (p : Pos), ex = .UnaryOp .USub l p ∧ chkE G a s l = true := by
  unfold chkE at h
  split at h
  · have h1 := h; exact ⟨_, _, rfl, h1⟩
  · cases h
theorem chk_not {G : Cg} {s : Sc} {ex : Expr} {a : E} (h : chkE G (.not a) s ex = true) : ∃ (l : Expr) (p : Pos), ex = .UnaryOp .Not l p ∧ chkE G a s l = true := by
  unfold chkE at h
  split at h
  · have h1 := h; exact ⟨_, _, rfl, h1⟩
  · cases h
theorem chk_and {G : Cg} {s : Sc} {ex : Expr} {a b : E} (h : chkE G (.and a b) s ex = true) : ∃ (l r : Expr) (rest : List Expr) (p : Pos), ex = .BoolOp .And (l :: r :: rest) p ∧ chkE G a s l = true ∧ (match rest with | [] => chkE G b s r | _ :: _ => chkE G b s (.BoolOp .And (r :: rest) p)) = true := by
  unfold chkE at h
  split at h
  · (try simp only [Bool.and_eq_true, decide_eq_true_eq, Bool.not_eq_true', Bool.not_eq_false', beq_iff_eq] at h); obtain ⟨h1, h2⟩ := h; exact ⟨_, _, _, _, rfl, h1, h2⟩
  · cases h
theorem chk_or {G : Cg} {s : Sc} {ex : Expr} {a b : E} (h : chkE G (.or a b) s ex = true) : ∃ (l r : Expr) (rest : List Expr) (p : Pos), ex = .BoolOp .Or (l :: r :: rest) p ∧ chkE G a s l = true ∧ (match rest with | [] => chkE G b s r | _ :: _ => chkE G b s (.BoolOp .Or (r :: rest) p)) = true := by
  unfold chkE at h
  split at h
  · (try simp only [Bool.and_eq_true, decide_eq_true_eq, Bool.not_eq_true', Bool.not_eq_false', beq_iff_eq] at h); obtain ⟨h1, h2⟩ := h; exact ⟨_, _, _, _, rfl, h1, h2⟩
  · cases h
theorem chk_cmp {G : Cg} {s : Sc} {ex : Expr} {c : Cp} {a b : E} (h : chkE G (.cmp c a b) s ex = true) : ∃ (l r : Expr) (p : Pos), ex = .Compare l [cpo c] [r] p ∧ chkE G a s l = true ∧ chkE G b s r = true ∧ behindInMarks (cpo c) r = false := by
  unfold chkE at h
  split at h
  · (try simp only [Bool.and_eq_true, decide_eq_true_eq, Bool.not_eq_true', Bool.not_eq_false', beq_iff_eq] at h); obtain ⟨⟨⟨rfl, h1⟩, h2⟩, h3⟩ := h; exact ⟨_, _, _, rfl, h1, h2, h3⟩
  · cases h
theorem chk_chain {G : Cg} {s : Sc} {ex : Expr} {c c' : Cp} {a b d : E} (h : chkE G (.chain c c' a b d) s ex = true) : ∃ (l r r' : Expr) (p : Pos), ex = .Compare l [cpo c, cpo c'] [r, r'] p ∧ chkE G a s l = true ∧ chkE G b s r = true ∧ chkE G d s r' = true ∧ lastMarks [cpo c, cpo c'] [r, r'] = false := by
  unfold chkE at h
  split at h
  · (try simp only [Bool.and_eq_true, decide_eq_true_eq, Bool.not_eq_true', Bool.not_eq_false', beq_iff_eq] at h); obtain ⟨⟨⟨⟨⟨rfl, rfl⟩, h1⟩, h2⟩, h3⟩, h4⟩ := h; exact ⟨_, _, _, _, rfl, h1, h2, h3, h4⟩
  · cases h
theorem chk_ite {G : Cg} {s : Sc} {ex : Expr} {c a b : E} (h : chkE G (.ite c a b) s ex = true) : ∃ (x l r : Expr) (p : Pos), ex = .IfExp x l r p ∧ chkE G c s x = true ∧ chkE G a s l = true ∧ chkE G b s r = true := by
  unfold chkE at h
  split at h
  · (try simp only [Bool.and_eq_true, decide_eq_true_eq, Bool.not_eq_true', Bool.not_eq_false', beq_iff_eq] at h); obtain ⟨⟨h1, h2⟩, h3⟩ := h; exact ⟨_, _, _, _, rfl, h1, h2, h3⟩
  · cases h
theorem chk_tup {G : Cg} {s : Sc} {ex : Expr} {es : Es} (h : chkE G (.tup es) s ex = true) : ∃ (ls : List Expr) (k : Nat) (p : Pos), ex = .Tuple ls k p ∧ chkEs G es s ls = true ∧ few ls = true := by
  unfold chkE at h
  split at h
  · (try simp only [Bool.and_eq_true, decide_eq_true_eq, Bool.not_eq_true', Bool.not_eq_false', beq_iff_eq] at h); obtain ⟨h1, h2⟩ := h; exact ⟨_, _, _, rfl, h1, h2⟩
  · cases h
theorem chk_lst {G : Cg} {s : Sc} {ex : Expr} {es : Es} (h : chkE G (.lst es) s ex = true) : ∃ (ls : List Expr) (p : Pos), ex = .List ls p ∧ chkEs G es s ls = true ∧ few ls = true := by
  unfold chkE at h
  split at h
  · (try simp only [Bool.and_eq_true, decide_eq_true_eq, Bool.not_eq_true', Bool.not_eq_false', beq_iff_eq] at h); obtain ⟨h1, h2⟩ := h; exact ⟨_, _, rfl, h1, h2⟩
  · cases h
theorem chk_dict0 {G : Cg} {s : Sc} {ex : Expr}  (h : chkE G (.dict0) s ex = true) : ∃ (p : Pos), ex = .Dict [] [] p := by
  unfold chkE at h
  split at h
  ·  exact ⟨_, rfl⟩
  · cases h
theorem chk_ix {G : Cg} {s : Sc} {ex : Expr} {a b : E} (h : chkE G (.ix a b) s ex = true) : ∃ (l r : Expr) (p : Pos), ex = .Subscript l r p ∧ chkE G a s l = true ∧ chkE G b s r = true ∧ isSlice r = false := by
  unfold chkE at h
  split at h
  · (try simp only [Bool.and_eq_true, decide_eq_true_eq, Bool.not_eq_true', Bool.not_eq_false', beq_iff_eq] at h); obtain ⟨⟨h1, h2⟩, h3⟩ := h; exact ⟨_, _, _, rfl, h1, h2, h3⟩
  · cases h
theorem chk_dix {G : Cg} {s : Sc} {ex : Expr} {a b : E} (h : chkE G (.dix a b) s ex = true) : ∃ (l r : Expr) (p : Pos), ex = .Subscript l r p ∧ chkE G a s l = true ∧ chkE G b s r = true ∧ isSlice r = false := by
  unfold chkE at h
  split at h
  · (try simp only [Bool.and_eq_true, decide_eq_true_eq, Bool.not_eq_true', Bool.not_eq_false', beq_iff_eq] at h); obtain ⟨⟨h1, h2⟩, h3⟩ := h; exact ⟨_, _, _, rfl, h1, h2, h3⟩
  · cases h
theorem chk_sl {G : Cg} {s : Sc} {ex : Expr} {a : E} {lo hi : Es} (h : chkE G (.sl a lo hi) s ex = true) : ∃ (l : Expr) (x y : Option Expr) (p1 p : Pos), ex = .Subscript l (.Slice x y none p1) p ∧ chkE G a s l = true ∧ chkO G lo s x = true ∧ chkO G hi s y = true := by
  unfold chkE at h
  split at h
  · (try simp only [Bool.and_eq_true, decide_eq_true_eq, Bool.not_eq_true', Bool.not_eq_false', beq_iff_eq] at h); obtain ⟨⟨h1, h2⟩, h3⟩ := h; exact ⟨_, _, _, _, _, rfl, h1, h2, h3⟩
  · cases h
theorem chk_rev {G : Cg} {s : Sc} {ex : Expr} {a : E} (h : chkE G (.rev a) s ex = true) : ∃ (l : Expr) (k : Nat) (p1 p2 p3 p : Pos), ex = .Subscript l (.Slice none none (some (.UnaryOp .USub (.Constant (.int 1) k p1) p2)) p3) p ∧ chkE G a s l = true := by
  unfold chkE at h
  split at h
  · have h1 := h; exact ⟨_, _, _, _, _, _, rfl, h1⟩
  · cases h
theorem chk_len {G : Cg} {s : Sc} {ex : Expr} {a : E} (h : chkE G (.len a) s ex = true) : ∃ (q : Pos) (l : Expr) (p : Pos), ex = .Call (.Name sLen q) [l] [] p ∧ isGl s sLen = true ∧ isStar l = false ∧ chkE G a s l = true := by
  unfold chkE at h
  split at h
  · (try simp only [Bool.and_eq_true, decide_eq_true_eq, Bool.not_eq_true', Bool.not_eq_false', beq_iff_eq] at h); obtain ⟨⟨⟨rfl, h1⟩, h2⟩, h3⟩ := h; exact ⟨_, _, _, rfl, h1, h2, h3⟩
  · cases h
theorem chk_bi {G : Cg} {s : Sc} {ex : Expr} {b : Bi} {a : E} (h : chkE G (.bi b a) s ex = true) : ∃ (q : Pos) (l : Expr) (p : Pos), ex = .Call (.Name (biN b) q) [l] [] p ∧ biY b = true ∧ isGl s (biN b) = true ∧ isStar l = false ∧ chkE G a s l = true := by
  unfold chkE at h
  split at h
  · (try simp only [Bool.and_eq_true, decide_eq_true_eq, Bool.not_eq_true', Bool.not_eq_false', beq_iff_eq] at h); obtain ⟨⟨⟨⟨h0, rfl⟩, h1⟩, h2⟩, h3⟩ := h; exact ⟨_, _, _, rfl, h0, h1, h2, h3⟩
  · cases h
theorem chk_bi2 {G : Cg} {s : Sc} {ex : Expr} {b : Bi2} {a c : E} (h : chkE G (.bi2 b a c) s ex = true) : ∃ (q : Pos) (l r : Expr) (p : Pos), ex = .Call (.Name (bi2N b) q) [l, r] [] p ∧ isGl s (bi2N b) = true ∧ isStar l = false ∧ isStar r = false ∧ chkE G a s l = true ∧ chkE G c s r = true := by
  unfold chkE at h
  split at h
  · (try simp only [Bool.and_eq_true, decide_eq_true_eq, Bool.not_eq_true', Bool.not_eq_false', beq_iff_eq] at h); obtain ⟨⟨⟨⟨⟨rfl, h1⟩, h2⟩, h3⟩, h4⟩, h5⟩ := h; exact ⟨_, _, _, _, rfl, h1, h2, h3, h4, h5⟩
  · cases h
theorem chk_isi {G : Cg} {s : Sc} {ex : Expr} {a : E} {t : Ty} (h : chkE G (.isi a t) s ex = true) : ∃ (q : Pos) (l : Expr) (q2 p : Pos), ex = .Call (.Name sIsi q) [l, .Name (tyN t) q2] [] p ∧ isGl s sIsi = true ∧ isGl s (tyN t) = true ∧ isStar l = false ∧ chkE G a s l = true := by
  unfold chkE at h
  split at h
  · (try simp only [Bool.and_eq_true, decide_eq_true_eq, Bool.not_eq_true', Bool.not_eq_false', beq_iff_eq] at h); obtain ⟨⟨⟨⟨⟨rfl, h1⟩, rfl⟩, h2⟩, h3⟩, h4⟩ := h; exact ⟨_, _, _, _, rfl, h1, h2, h3, h4⟩
  · cases h
theorem chk_dget1 {G : Cg} {s : Sc} {ex : Expr} {a k : E} (h : chkE G (.dget1 a k) s ex = true) : ∃ (l : Expr) (apos : Pos) (r : Expr) (cpos : Pos), ex = .Call (.Attribute l sGet apos) [r] [] cpos ∧ apos.endLine = cpos.line ∧ isStar r = false ∧ isCall0 l = false ∧ chkE G a s l = true ∧ chkE G k s r = true := by
  unfold chkE at h
  split at h
  · (try simp only [Bool.and_eq_true, decide_eq_true_eq, Bool.not_eq_true', Bool.not_eq_false', beq_iff_eq] at h); obtain ⟨⟨⟨⟨⟨rfl, h1⟩, h2⟩, h3⟩, h4⟩, h5⟩ := h; exact ⟨_, _, _, _, rfl, h1, h2, h3, h4, h5⟩
  · cases h
theorem chk_dget2 {G : Cg} {s : Sc} {ex : Expr} {a k z : E} (h : chkE G (.dget2 a k z) s ex = true) : ∃ (l : Expr) (apos : Pos) (r t : Expr) (cpos : Pos), ex = .Call (.Attribute l sGet apos) [r, t] [] cpos ∧ apos.endLine = cpos.line ∧ isStar r = false ∧ isStar t = false ∧ isCall0 l = false ∧ chkE G a s l = true ∧ chkE G k s r = true ∧ chkE G z s t = true := by
  unfold chkE at h
  split at h
  · (try simp only [Bool.and_eq_true, decide_eq_true_eq, Bool.not_eq_true', Bool.not_eq_false', beq_iff_eq] at h); obtain ⟨⟨⟨⟨⟨⟨⟨rfl, h1⟩, h2⟩, h3⟩, h4⟩, h5⟩, h6⟩, h7⟩ := h; exact ⟨_, _, _, _, _, rfl, h1, h2, h3, h4, h5, h6, h7⟩
  · cases h
theorem chk_mm {G : Cg} {s : Sc} {ex : Expr} {m : Mm} {i : Nat} {es : Es} (h : chkE G (.mm m i es) s ex = true) : ∃ (x : Str) (p apos : Pos) (ls : List Expr) (cpos : Pos), ex = .Call (.Attribute (.Name x p) (mmN m) apos) ls [] cpos ∧ isVis s x = true ∧ nmOk x = true ∧ atN G i x = true ∧ mmY m = true ∧ apos.endLine = cpos.line ∧ few ls = true ∧ chkEs G es s ls = true := by
  unfold chkE at h
  split at h
  · (try simp only [Bool.and_eq_true, decide_eq_true_eq, Bool.not_eq_true', Bool.not_eq_false', beq_iff_eq] at h); obtain ⟨⟨⟨⟨⟨⟨⟨h1, h2⟩, h3⟩, h4⟩, rfl⟩, h5⟩, h6⟩, h7⟩ := h; exact ⟨_, _, _, _, _, rfl, h1, h2, h3, h4, h5, h6, h7⟩
  · cases h
theorem chk_rng1 {G : Cg} {s : Sc} {ex : Expr} {t : Bool} {b : E} (h : chkE G (.rng1 t b) s ex = true) : ∃ (q q2 : Pos) (l : Expr) (p2 p : Pos), ex = .Call (.Name (rngN t) q) [.Call (.Name sRange q2) [l] [] p2] [] p ∧ isGl s (rngN t) = true ∧ isGl s sRange = true ∧ isStar l = false ∧ chkE G b s l = true := by
  unfold chkE at h
  split at h
  · (try simp only [Bool.and_eq_true, decide_eq_true_eq, Bool.not_eq_true', Bool.not_eq_false', beq_iff_eq] at h); obtain ⟨⟨⟨⟨⟨rfl, h1⟩, rfl⟩, h2⟩, h3⟩, h4⟩ := h; exact ⟨_, _, _, _, _, rfl, h1, h2, h3, h4⟩
  · cases h
theorem chk_rng2 {G : Cg} {s : Sc} {ex : Expr} {t : Bool} {a b : E} (h : chkE G (.rng2 t a b) s ex = true) : ∃ (q q2 : Pos) (l r : Expr) (p2 p : Pos), ex = .Call (.Name (rngN t) q) [.Call (.Name sRange q2) [l, r] [] p2] [] p ∧ isGl s (rngN t) = true ∧ isGl s sRange = true ∧ isStar l = false ∧ isStar r = false ∧ chkE G a s l = true ∧ chkE G b s r = true := by
  unfold chkE at h
  split at h
  · (try simp only [Bool.and_eq_true, decide_eq_true_eq, Bool.not_eq_true', Bool.not_eq_false', beq_iff_eq] at h); obtain ⟨⟨⟨⟨⟨⟨⟨rfl, h1⟩, rfl⟩, h2⟩, h3⟩, h4⟩, h5⟩, h6⟩ := h; exact ⟨_, _, _, _, _, _, rfl, h1, h2, h3, h4, h5, h6⟩
  · cases h
theorem chk_call {G : Cg} {s : Sc} {ex : Expr} {f : Nat} {es : Es} (h : chkE G (.call f es) s ex = true) : ∃ (x : Str) (q : Pos) (l : Expr) (ls : List Expr) (p : Pos), ex = .Call (.Name x q) (l :: ls) [] p ∧ (match G.fna[f]? with | some y => decide (y = x) | none => false) = true ∧ isGl s x = true ∧ nmOk x = true ∧ chkEs G es s (l :: ls) = true := by
  unfold chkE at h
  split at h
  · (try simp only [Bool.and_eq_true, decide_eq_true_eq, Bool.not_eq_true', Bool.not_eq_false', beq_iff_eq] at h); obtain ⟨⟨⟨h1, h2⟩, h3⟩, h4⟩ := h; exact ⟨_, _, _, _, _, rfl, h1, h2, h3, h4⟩
  · cases h
theorem chk_callF {G : Cg} {s : Sc} {ex : Expr} {f : Nat} {e : E} {es : Es} (h : chkE G (.callF f e es) s ex = true) : ∃ (x : Str) (q : Pos) (l : Expr) (ls : List Expr) (p : Pos), ex = .Call (.Name x q) (l :: ls) [] p ∧ (match G.fna[f]? with | some y => decide (y = x) | none => false) = true ∧ isGl s x = true ∧ nmOk x = true ∧ isStar l = false ∧ chkE G e s l = true ∧ chkEs G es s ls = true := by
  unfold chkE at h
  split at h
  · (try simp only [Bool.and_eq_true, decide_eq_true_eq, Bool.not_eq_true', Bool.not_eq_false', beq_iff_eq] at h); obtain ⟨⟨⟨⟨⟨h1, h2⟩, h3⟩, h4⟩, h5⟩, h6⟩ := h; exact ⟨_, _, _, _, _, rfl, h1, h2, h3, h4, h5, h6⟩
  · cases h
theorem chk_comp {G : Cg} {s : Sc} {ex : Expr} {tg : Tg} {it : It} {cond : Es} {elt : E} (h : chkE G (.comp tg it cond elt) s ex = true) : ∃ (x t i : Expr) (ifs : List Expr) (scope : Scope) (p : Pos), ex = .ListComp x [⟨t, i, ifs, 0⟩] scope p ∧ chkIt G it s t i = true ∧ isSetE i = false ∧ blkC G.N s.rel scope (tgOwn tg t) = true ∧ chkTg G ⟨scope, relS scope s.rel⟩ tg t = true ∧ chkC G cond ⟨scope, relS scope s.rel⟩ ifs = true ∧ chkE G elt ⟨scope, relS scope s.rel⟩ x = true := by
  unfold chkE at h
  split at h
  · (try simp only [Bool.and_eq_true, decide_eq_true_eq, Bool.not_eq_true', Bool.not_eq_false', beq_iff_eq] at h); obtain ⟨⟨⟨⟨⟨h1, h2⟩, h3⟩, h4⟩, h5⟩, h6⟩ := h; exact ⟨_, _, _, _, _, _, rfl, h1, h2, h3, h4, h5, h6⟩
  · cases h
end Ev
/-! t[::-1], t a tuple or a list. -/
namespace EvRt
open PySem PySem.Spec PyProof.Rows HT
section
variable {prog : Program} {w : World} {A : Around} {E : Value → Shared → Prop} {s : Shared}
theorem adjR (n : Nat) : Builtin.Slice.sliceAdjust none none (-1) (n : Int) = ((n : Int) - 1, -1) := by
  unfold Builtin.Slice.sliceAdjust
  simp
theorem plR (n : Nat) : Builtin.Slice.slicePlaces ((n : Int) - 1) (-1) (-1) = n := by
  unfold Builtin.Slice.slicePlaces
  have h1 : ¬ ((-1 : Int) > 0) := by omega
  simp only [h1, if_false]
  split
  · have : ((n : Int) - 1 - -1 - 1) / (- -1) + 1 = n := by
      rw [show (- -1 : Int) = 1 by decide, Int.ediv_one]; omega
    rw [this]; simp
  · omega
theorem appliedR {sl : Addr} {vs : Value} {n : Nat} {Q : Int × Int × Nat → Shared → Prop} (hs : s.heap.IsSliceOf sl .none .none vs) (ps : IsPart vs (some (-1)))
    (h : Q ((n : Int) - 1, -1, n) s) : wpAny (model prog w) A (Builtin.Slice.sliceApplied (.ref sl) (pure (n : Int))) Q E s := by
  obtain ⟨os, ho, hc, hd⟩ := id hs
  unfold Builtin.Slice.sliceApplied Builtin.Slice.sliceFields
  refine wpAny_bind (wpAny_bind (wpAny_field ho hd (x := .none) rfl (wpAny_bind (wpAny_field ho hd (x := .none) rfl (wpAny_bind (wpAny_field ho hd (x := vs) rfl (wpAny_pure ?_)))))))
  refine wpAny_bind (slicePart_ ps ?_)
  show wpAny _ _ (if ((-1 : Int) == 0) = true then _ else _) _ _ s
  rw [if_neg (by decide)]
  refine wpAny_bind (slicePart_none (wpAny_bind (slicePart_none (wpAny_bind (wpAny_pure ?_)))))
  show wpAny _ _ (match Builtin.Slice.sliceAdjust none none (-1) (n : Int) with | (lo, hi) => pure (lo, (-1 : Int), Builtin.Slice.slicePlaces lo hi (-1))) _ _ s
  rw [adjR n]
  show wpAny _ _ (pure ((n : Int) - 1, (-1 : Int), Builtin.Slice.slicePlaces ((n : Int) - 1) (-1) (-1))) _ _ s
  rw [plR]
  exact wpAny_pure h
theorem pickR (xs : Array Value) : ((List.range xs.size).filterMap fun (m : Nat) => xs[((xs.size : Int) - 1 + (m : Int) * (-1)).toNat]?).toArray = xs.toList.reverse.toArray := by
  have e : ((List.range xs.size).filterMap fun (m : Nat) => xs[((xs.size : Int) - 1 + (m : Int) * (-1)).toNat]?) = ((List.range xs.size).map fun k => xs.size - 1 - k).filterMap (xs[·]?) := by
    rw [List.filterMap_map]
    congr 1
    funext m
    show _ = xs[xs.size - 1 - m]?
    have : ((xs.size : Int) - 1 + (m : Int) * (-1)).toNat = xs.size - 1 - m := by omega
    rw [this]
  rw [e, PySem.W.krv_range, List.filterMap_reverse, PySem.W.krv_all]
theorem itemR {t sl : Addr} {items : Array Value} {vs : Value} {Q : Value → Shared → Prop} (ht : IsTup s.heap t items) (hs : s.heap.IsSliceOf sl .none .none vs) (ps : IsPart vs (some (-1)))
    (h : Q (.ref s.heap.objs.size) { s with heap := s.heap.push { cls := .type "tuple", data := .seq items.toList.reverse.toArray } }) (hsz : items.size ≤ sizeLine) : wpAny (model prog w) A (getItem (.ref t) (.ref sl)) Q E s := by
  have hz : sizeOk (.seq items.toList.reverse.toArray) := by
    show items.toList.reverse.toArray.size ≤ sizeLine
    rw [List.size_toArray, List.length_reverse, Array.length_toList]
    exact hsz
  obtain ⟨os, ho, hc, hd⟩ := id hs
  have hT : s.TypeIs (.ref sl) "slice" := ⟨os, ho, hc⟩
  unfold getItem
  try with_reducible refine wpAny_holding ?_
  first | refine wpAny_bind (wpAny_pure ?_) | skip
  refine wpAny_bind (wpAny_sequenceKey ht.typeIs (by decide) ?_)
  refine wpAny_bind (wpAny_callSpecial?_slot (name := Str.ofString "__getitem__") ht.typeIs PyProof.Rows.slot_tuple_getitem (wpAny_call_entry PyProof.Rows.slot_tuple_getitem ht.typeIs entry_tuple_getitem ?_ (args_tuple_getitem _ _)))
  show wpAny _ _ (Builtin.Tuple.tupleItemsOf (.ref t) >>= _) _ _ s
  refine wpAny_bind (tupleItemsOf_ ht ?_)
  refine wpAny_bind (wpAny_typeOf hT ?_)
  rw [if_pos (by decide)]
  refine wpAny_bind (appliedR hs ps ?_)
  have hno : ¬ ((((items.size : Int) - 1) == 0 && (-1 : Int) == 1 && items.size == items.size) = true) := by
    intro q
    rw [Bool.and_eq_true, Bool.and_eq_true] at q
    exact absurd q.1.2 (by decide)
  show wpAny _ _ (if (((items.size : Int) - 1) == 0 && (-1 : Int) == 1 && items.size == items.size) = true then _ else _) _ _ s
  rw [if_neg hno, pickR]
  first
    | exact wpAny_bind (m := Builtin.Tuple.tupleExact _) (wpAny_newObj_type (wpAny_pure ⟨_, rfl, wpAny_pure h⟩) hz)
    | exact wpAny_bind (m := Builtin.Tuple.tupleExact _) (wpAny_newObj_type (wpAny_bind (wpAny_pure (wpAny_pure ⟨_, rfl, wpAny_pure h⟩))) hz)
    | exact wpAny_bind (wpAny_bind (m := Builtin.Tuple.tupleExact _) (wpAny_newObj_type (wpAny_pure (wpAny_pure ⟨_, rfl, wpAny_pure h⟩)) hz))
    | exact wpAny_bind (wpAny_bind (m := Builtin.Tuple.tupleExact _) (wpAny_newObj_type (wpAny_pure ⟨_, rfl, wpAny_pure h⟩) hz))
end
end EvRt
namespace Ev
open PySem PySem.Spec PyProof.Rows L2
section
variable {X : Cx}
def tRevA (K : PySem.W.Frag) (te : TE) : TE := fun σ H Q => te σ H fun x H1 => ∃ a xs, x = .ref a ∧ ((SqL K H1 a xs ∧ ∀ p, H1 p = none → Q (.ref p) (upd H1 p (.lst xs.reverse))) ∨ (SqT K H1 a xs ∧ ∀ p, H1 p = none → Q (.ref p) (upd H1 p (.tup xs.reverse))))
theorem pe_revA {e : Expr} {te : TE} {k : Nat} {p1 p2 p3 pos : Pos} (he : PE X e te) : PE X (.Subscript e (.Slice none none (some (.UnaryOp .USub (.Constant (.int 1) k p1) p2)) p3) pos) (tRevA X.K te) := by
  refine ⟨fun pins s σ H Q I h => ?_⟩
  refine Subscript_ (thn (he.run pins s σ H _ I h) fun v s1 ⟨x, H1, I1, r1, q1⟩ => ?_)
  obtain ⟨a, xs, ex, q⟩ := q1
  subst ex
  cases r1
  have hm : PO X (some (.UnaryOp .USub (.Constant (.int 1) k p1) p2)) (tPart (tUn (rU fun i => .int (-i)) (tC (.int 1)))) := po_some (pe_un un_neg pe_int)
  refine wpAny_Slice (thn (po_none.run pins s1 σ H1 (fun o H2 => o = none ∧ H2 = H1) I1 ⟨rfl, rfl⟩) fun vl s2 ⟨l, H2, I2, pl, el, e2⟩ => ?_)
  subst el e2
  refine thn (po_none.run pins s2 σ H2 (fun o H3 => o = none ∧ H3 = H2) I2 ⟨rfl, rfl⟩) fun vu s3 ⟨u, H3, I3, pu, eu, e3⟩ => ?_
  subst eu e3
  refine thn (hm.run pins s3 σ H3 (fun o H4 => o = some (-1) ∧ H4 = H3) I3 ⟨1, rfl, -1, rfl, rfl, rfl⟩) fun vs s4 ⟨o, H4, I4, ps, eo, e4⟩ => ?_
  subst eo e4
  have I5 : Inv X pins σ H4 { s4 with heap := s4.heap.push { cls := .type "slice", data := .fields #[vl, vu, vs] } } := I4.kept (t' := s4.toks) fun b ob q => Heap.get?_push_of_some _ q
  rcases q with ⟨hx, q⟩ | ⟨hx, q⟩
  · obtain ⟨its, r, ht, hz⟩ := I5.list hx
    have hn := r.length
    show wpAny (model X.prog X.w) X.A (subscriptTail e (.Slice none none (some (.UnaryOp .USub (.Constant (.int 1) k p1) p2)) p3) (.ref a) (.ref s4.heap.objs.size)) (EP X pins σ Q) X.xe _
    refine tail_any (ops := [.ref a, .ref s4.heap.objs.size]) ht.isList.typeIs (PySem.slot_list_getitem.lookup) ?_ (by with_unfolding_all rfl)
    refine wpAny_getItem_list_slice ht.isList (Heap.IsSliceOf.new _ vl vu vs) pl pu ps (by decide) ?_ (by rw [List.size_toArray]; omega)
    rw [PySem.W.krv_pick]
    exact ⟨.ref _, _, I5.laid (t' := s4.toks) (o := .lst xs.reverse) (fun b ob q => Heap.get?_push_of_some _ q) (Nat.le_refl _) ⟨by rw [List.length_reverse]; exact hz, _, 0, r.reverse, Heap.get?_push_size _ rfl⟩, rfl, q _ (I5.hok.fresh (Nat.le_refl _))⟩
  · obtain ⟨its, r, ht, hz⟩ := I5.tuple hx
    have hn := r.length
    show wpAny (model X.prog X.w) X.A (subscriptTail e (.Slice none none (some (.UnaryOp .USub (.Constant (.int 1) k p1) p2)) p3) (.ref a) (.ref s4.heap.objs.size)) (EP X pins σ Q) X.xe _
    refine tail_any (ops := [.ref a, .ref s4.heap.objs.size]) ht.typeIs (PyProof.Rows.slot_tuple_getitem.lookup) ?_ (by with_unfolding_all rfl)
    cases pl
    cases pu
    refine EvRt.itemR ht (Heap.IsSliceOf.new _ .none .none vs) ps ?_ (by rw [List.size_toArray]; omega)
    exact ⟨.ref _, _, I5.laid (t' := s4.toks) (o := .tup xs.reverse) (fun b ob q => Heap.get?_push_of_some _ q) (Nat.le_refl _) ⟨by rw [List.length_reverse]; exact hz, _, r.reverse, IsTup.new _ _⟩, rfl, q _ (I5.hok.fresh (Nat.le_refl _))⟩
end
end Ev
/-! Expressions keep what they compute: one at a time. -/
namespace Ev
open PySem PySem.Spec PyProof.Rows L2

theorem PE.imp' {X : Cx} {e : Expr} {t t' : TE} (h : PE X e t) (k : ∀ σ H Q, t' σ H Q → t σ H Q) : PE X e t' := ⟨fun pins s σ H Q I q => h.run pins s σ H Q I (k _ _ _ q)⟩
theorem PT.imp' {X : Cx} {e : Expr} {t t' : TT} (h : PT X e t) (k : ∀ σ H Q, t' σ H Q → t σ H Q) : PT X e t' := ⟨fun pins s σ H Q I q => h.run pins s σ H Q I (k _ _ _ q)⟩
theorem PW.imp' {X : Cx} {e : Expr} {t t' : TT} (h : PW X e t) (k : ∀ σ H Q, t' σ H Q → t σ H Q) : PW X e t' := ⟨fun w pins s σ H Q I q => h.run w pins s σ H Q I (k _ _ _ q)⟩
theorem PA.imp' {X : Cx} {e : List Expr} {t t' : TA} (h : PA X e t) (k : ∀ σ H Q, t' σ H Q → t σ H Q) : PA X e t' := ⟨fun p pins s σ H Q I q => h.run p pins s σ H Q I (k _ _ _ q)⟩
theorem PO.imp' {X : Cx} {e : Option Expr} {t t' : TO} (h : PO X e t) (k : ∀ σ H Q, t' σ H Q → t σ H Q) : PO X e t' := ⟨fun pins s σ H Q I q => h.run pins s σ H Q I (k _ _ _ q)⟩
theorem PI.imp' {X : Cx} {g e : Expr} {t t' : TI} (h : PI X g e t) (k : ∀ σ H R, t' σ H R → t σ H R) : PI X g e t' := ⟨fun pins s σ H Q I q => h.run pins s σ H Q I (k _ _ _ q)⟩
theorem sameD_eq : (∀ x y : D, sameD x y = true → x = y) := by
  intro x
  refine PyData.rec (motive_1 := fun x => ∀ y, sameD x y = true → x = y) (motive_2 := fun xs => ∀ ys, sameL xs ys = true → xs = ys) (motive_3 := fun xs => ∀ ys, sameP xs ys = true → xs = ys) (motive_4 := fun p => ∀ q : D × D, (sameD p.1 q.1 && sameD p.2 q.2) = true → p = q) ?_ ?_ ?_ ?_ ?_ ?_ ?_ ?_ ?_ ?_ ?_ ?_ x
  · intro y h; cases y <;> first | rfl | simp [sameD] at h
  · intro b y h; cases y <;> first | (simp [sameD] at h; rw [h]) | simp [sameD] at h
  · intro b y h; cases y <;> first | (simp [sameD] at h; rw [h]) | simp [sameD] at h
  · intro b y h; cases y <;> first | (simp [sameD] at h; rw [h]) | simp [sameD] at h
  · intro b ih y h; cases y <;> first | (simp [sameD] at h; rw [ih _ h]) | simp [sameD] at h
  · intro b ih y h; cases y <;> first | (simp [sameD] at h; rw [ih _ h]) | simp [sameD] at h
  · intro b ih y h; cases y <;> first | (simp [sameD] at h; rw [ih _ h]) | simp [sameD] at h
  · intro y h; cases y <;> first | rfl | simp [sameL] at h
  · intro a as i1 i2 y h
    cases y with
    | nil => simp [sameL] at h
    | cons b bs =>
      simp only [sameL, Bool.and_eq_true] at h
      rw [i1 _ h.1, i2 _ h.2]
  · intro y h; cases y <;> first | rfl | simp [sameP] at h
  · intro a as i1 i2 y h
    obtain ⟨a1, a2⟩ := a
    cases y with
    | nil => simp [sameP] at h
    | cons b bs =>
      obtain ⟨b1, b2⟩ := b
      simp only [sameP, Bool.and_eq_true] at h
      rw [i1 (b1, b2) (by simpa using h.1), i2 _ h.2]
  · intro a b i1 i2 q h
    obtain ⟨c, d⟩ := q
    simp only [Bool.and_eq_true] at h
    rw [i1 _ h.1, i2 _ h.2]

/-! ### what is known where code runs -/
structure XOk (G : Cg) (cl : ClsT) (W : WX) (φ : Phi) (s : Sc) (X : Cx) : Prop where
  calm : X.calm = true
  n : X.N = G.N
  nd : G.N.Nodup
  sc : X.env.scope = s.rel
  kind : s.rel.kind = .function
  fn : ∀ x, s.raw.names.lookup x = some .cell → X.fn x = true
  units : X.A.units + 65 < cLine
  own : PassesOwn (model X.prog X.w) X.A X.env X.xe
  tk : L2N.Takes X W
  blt : ∀ x ∈ bltN, X.mg x = none
  fns : ∀ (i : Nat) (x : Str), G.fna[i]? = some x → ∃ (k : Nat) (f : Addr) (fd : FuncData) (ps : List Str), X.mg x = some (.ref f) ∧ PySem.W.keepIn X.K (.ref f) = true ∧ Binds X.K fd ps [] ∧ Room k X.A ∧ FnOk X.prog X.w X.K X.mg X.base (L2N.CX X.prog X.w) k f fd ps (spF X.K cl (φ i))
  con : ∀ (x : Str) (d : D), hasCon G.con x d = true → ∃ (v : V) (u : Value), X.mg x = some u ∧ RelV v u ∧ RepC X.K v d
section
variable {G : Cg} {cl : ClsT} {W : WX} {φ : Phi} {s : Sc} {X : Cx}
theorem XOk.vis (ok : XOk G cl W φ s X) {x : Str} (h : isVis s x = true) : Vis X.env.scope x := by
  unfold isVis kd at h
  rw [ok.sc]
  unfold Vis
  cases e : s.rel.names.lookup x with
  | none => rw [e] at h; cases h
  | some k =>
    rw [e] at h
    cases k <;> first | exact .inl rfl | exact .inr (.inl rfl) | exact .inr (.inr rfl) | cases h
theorem XOk.gl (ok : XOk G cl W φ s X) {x : Str} (h : isGl s x = true) : Gl X x := by
  unfold isGl kd at h
  show X.env.scope.names.lookup x = _
  rw [ok.sc]
  cases e : s.rel.names.lookup x with
  | none => rw [e] at h; cases h
  | some k =>
    rw [e] at h
    cases k <;> first | rfl | cases h
theorem nmOk_1 {x : Str} (h : nmOk x = true) : (x == ("__debug__" : Str)) = false ∧ (x == ("__classdict__" : Str)) = false := by
  unfold nmOk at h
  rw [Bool.and_eq_true, Bool.not_eq_true', Bool.not_eq_true'] at h
  exact h
theorem XOk.at_ (ok : XOk G cl W φ s X) {i : Nat} {x : Str} (h : atN G i x = true) : X.N[i]? = some x := by
  unfold atN at h
  rw [ok.n]
  split at h
  · rename_i y e
    rw [e, of_decide_eq_true h]
  · cases h
theorem con_of {con : List (Str × D)} {x : Str} {d : D} : hasCon con x d = true → True := fun _ => trivial

/-! ### sequences -/
theorem PostE.bind {K : PySem.W.Frag} {A : Addr → Prop} {σ : Sg} {r : Rho} {H : Hp} {Q : VK} {x : R AV} {f : AV → Rho → R AV} (h : PostE K cl W A σ r H Q (x.bind f)) :
    PostE K cl W A σ r H (fun v H1 => ∃ A1 r1 a, Rl K A1 σ H1 r1 ∧ HV K A1 σ H1 r1 v a ∧ (∀ u y, HV K A σ H r u y → HV K A1 σ H1 r1 u y) ∧ PostE K cl W A1 σ r1 H1 Q (f a r1)) x := by
  cases x with
  | stuck => exact h
  | exc c fs r' => exact h
  | ok a r1 =>
    intro v H1 ok
    obtain ⟨A1, h1, g1, s1, R1, q1⟩ := ok.hold
    exact ⟨A1, r1, a, R1, q1, fun u y q => q.step s1 h1 g1, PostE.back s1 h1 h⟩
theorem PostT.bind {K : PySem.W.Frag} {A : Addr → Prop} {σ : Sg} {r : Rho} {H : Hp} {Q : Bool → Hp → Prop} {x : R AV} {f : AV → Rho → R Bool} (h : PostT K cl W A σ r H Q (x.bind f)) :
    PostE K cl W A σ r H (fun v H1 => ∃ A1 r1 a, Rl K A1 σ H1 r1 ∧ HV K A1 σ H1 r1 v a ∧ (∀ u y, HV K A σ H r u y → HV K A1 σ H1 r1 u y) ∧ PostT K cl W A1 σ r1 H1 Q (f a r1)) x := by
  cases x with
  | stuck => exact h
  | exc c fs r' => exact h
  | ok a r1 =>
    intro v H1 ok
    obtain ⟨A1, h1, g1, s1, R1, q1⟩ := ok.hold
    exact ⟨A1, r1, a, R1, q1, fun u y q => q.step s1 h1 g1, PostT.back s1 h1 h⟩
/-- .. behind a test -/
theorem PostE.bindT {K : PySem.W.Frag} {A : Addr → Prop} {σ : Sg} {r : Rho} {H : Hp} {Q : VK} {x : R Bool} {f : Bool → Rho → R AV} (h : PostE K cl W A σ r H Q (x.bind f)) :
    PostT K cl W A σ r H (fun k H1 => ∃ r1, Rl K A σ H1 r1 ∧ PostE K cl W A σ r1 H1 Q (f k r1)) x := by
  cases x with
  | stuck => exact h
  | exc c fs r' => exact h
  | ok a r1 => exact fun H1 s1 R1 => ⟨r1, R1, PostE.back s1 (fun _ z => z) h⟩
theorem PostT.bindT {K : PySem.W.Frag} {A : Addr → Prop} {σ : Sg} {r : Rho} {H : Hp} {Q : Bool → Hp → Prop} {x : R Bool} {f : Bool → Rho → R Bool} (h : PostT K cl W A σ r H Q (x.bind f)) :
    PostT K cl W A σ r H (fun k H1 => ∃ r1, Rl K A σ H1 r1 ∧ PostT K cl W A σ r1 H1 Q (f k r1)) x := by
  cases x with
  | stuck => exact h
  | exc c fs r' => exact h
  | ok a r1 => exact fun H1 s1 R1 => ⟨r1, R1, PostT.back s1 (fun _ z => z) h⟩
theorem PostE.mono {K : PySem.W.Frag} {A : Addr → Prop} {σ : Sg} {r : Rho} {H : Hp} {Q Q' : VK} {x : R AV} (h : PostE K cl W A σ r H Q x) (k : ∀ v H', Q v H' → Q' v H') : PostE K cl W A σ r H Q' x := by
  cases x with
  | stuck => exact h
  | exc c fs r' => exact h
  | ok a r1 => exact fun v H1 ok => k _ _ (h v H1 ok)
theorem PostT.mono {K : PySem.W.Frag} {A : Addr → Prop} {σ : Sg} {r : Rho} {H : Hp} {Q Q' : Bool → Hp → Prop} {x : R Bool} (h : PostT K cl W A σ r H Q x) (k : ∀ v H', Q v H' → Q' v H') : PostT K cl W A σ r H Q' x := by
  cases x with
  | stuck => exact h
  | exc c fs r' => exact h
  | ok a r1 => exact fun H1 s1 R1 => k _ _ (h H1 s1 R1)
/-- a bool that has come -/
theorem OkE.bl {K : PySem.W.Frag} {A : Addr → Prop} {σ : Sg} {r : Rho} {H : Hp} {b : Bool} (R : Rl K A σ H r) : OkE K A σ r H (.bl b) H (.d (.bool b) false) r := ⟨.refl, R, .bl b⟩
theorem OkE.c {K : PySem.W.Frag} {A : Addr → Prop} {σ : Sg} {r : Rho} {H : Hp} {v : V} {x : D} (R : Rl K A σ H r) (h : Rep (Av A σ r) H v x) : OkE K A σ r H v H (.d x false) r := ⟨.refl, R, h⟩
/-- the test of a value -/
theorem pt_mk {ex : Expr} {ev : Rho → R AV} (he : PE X ex (tEv X.K cl W ev)) (hp : ∀ whole, isTrue ex X.env whole = (do let v ← whole; standAt ex.pos; holding [v] (truthy v))) : PT X ex (tTv X.K cl W (mkP ev).2) :=
  PT.imp' (pt_truth he hp) post_truth
theorem te_const {K : PySem.W.Frag} {v : V} {x : D} (hr : ∀ A H, Rep A H v x) : ∀ σ H Q, tEv K cl W (fun r => .ok (.d x false) r) σ H Q → tC v σ H Q := by
  rintro σ H Q ⟨A, r, R, h⟩
  exact h v H (.c R (hr _ _))
abbrev Snd (X : Cx) (cl : ClsT) (W : WX) (ex : Expr) (p : Pr) : Prop := PE X ex (tEv X.K cl W p.1) ∧ PT X ex (tTv X.K cl W p.2)
theorem snd_mk {ex : Expr} {ev : Rho → R AV} (he : PE X ex (tEv X.K cl W ev)) (hp : ∀ whole, isTrue ex X.env whole = (do let v ← whole; standAt ex.pos; holding [v] (truthy v)) := by intro _; rfl) : Snd X cl W ex (mkP ev) := ⟨he, pt_mk he hp⟩

/-! ### names, constants -/
theorem se_var (ok : XOk G cl W φ s X) {i : Nat} {x : Str} {p : Pos} (h1 : isVis s x = true) (h2 : nmOk x = true) (h3 : atN G i x = true) : Snd X cl W (.Name x p) (evP φ (.var i)) := by
  unfold evP
  refine snd_mk (PE.imp' (pe_var (ok.at_ h3) (ok.vis h1) (nmOk_1 h2).1 (nmOk_1 h2).2) ?_)
  rintro σ H Q ⟨A, r, R, h⟩
  dsimp only at h
  split at h
  · rename_i y e
    obtain ⟨v, e1, e2⟩ := R.d i y e
    exact ⟨v, e1, h v H (.c R e2)⟩
  · rename_i o m e
    obtain ⟨p, e1, _, _⟩ := R.own i _ _ e
    exact ⟨_, e1, h _ H ⟨.refl, R, e1⟩⟩
  · rename_i y e
    obtain ⟨v, e1, _⟩ := R.ro i y e
    exact ⟨_, e1, h _ H ⟨.refl, R, e1⟩⟩
  · exact h.elim
theorem se_int {i : Int} {k : Nat} {p : Pos} : Snd X cl W (.Constant (.int i) k p) (evP φ (.int i)) := by
  unfold evP
  exact snd_mk (PE.imp' pe_int (te_const fun A H => .int i))
theorem se_str {i : Str} {k : Nat} {p : Pos} : Snd X cl W (.Constant (.str i) k p) (evP φ (.str i)) := by
  unfold evP
  exact snd_mk (PE.imp' pe_str (te_const fun A H => .str i))
theorem se_bl {i : Bool} {k : Nat} {p : Pos} : Snd X cl W (.Constant (.bool i) k p) (evP φ (.bl i)) := by
  unfold evP
  exact snd_mk (PE.imp' pe_bl (te_const fun A H => .bl i))
theorem se_non {k : Nat} {p : Pos} : Snd X cl W (.Constant .none k p) (evP φ .non) := by
  unfold evP
  exact snd_mk (PE.imp' pe_non (te_const fun A H => .non))
theorem rep_flat {K : PySem.W.Frag} {v : V} {d : D} (c : RepC K v d) (f : flatD d = true) (A : Addr → Prop) (H : Hp) : Rep A H v d := by
  have q := c A H
  unfold RepR at q
  cases d with
  | none => rcases q with q | q; (have e : v = .non := q; rw [e]; exact .non); exact q.elim
  | bool b => rcases q with q | q; (have e : v = .bl b := q; rw [e]; exact .bl b); exact q.elim
  | int b => rcases q with q | q; (have e : v = .int b := q; rw [e]; exact .int b); exact q.elim
  | str b => rcases q with q | q; (have e : v = .str b := q; rw [e]; exact .str b); exact q.elim
  | _ => cases f
theorem se_glob (ok : XOk G cl W φ s X) {x : Str} {d : D} {p : Pos} (h1 : isGl s x = true) (h2 : nmOk x = true) (h3 : hasCon G.con x d = true) : Snd X cl W (.Name x p) (evP φ (.glob x d)) := by
  unfold evP
  obtain ⟨v, u, e1, e2, e3⟩ := ok.con x d h3
  refine snd_mk (PE.imp' (pe_glob (ok.gl h1) e1 e2 (nmOk_1 h2).1) ?_)
  rintro σ H Q ⟨A, r, R, h⟩
  dsimp only at h
  split at h
  · rename_i f
    exact h v H (.c R (rep_flat e3 f _ _))
  · exact h v H ⟨.refl, R, e3⟩

/-! ### operators -/
theorem se_op2 {o : Op2} {a b : E} {l r : Expr} {p : Pos} (ha : Snd X cl W l (evP φ a)) (hb : Snd X cl W r (evP φ b)) : Snd X cl W (.BinOp l (opr o) r p) (evP φ (.op2 o a b)) := by
  unfold evP
  refine snd_mk (PE.imp' (pe_op (op2_ok o) ha.1 hb.1) (post2 fun A σ r H x y v u Q R q q2 h => ?_))
  obtain ⟨a, b, z, fr, r1, r2, e, n⟩ := op2v_post R q q2 h
  exact ⟨Av A σ r, a, b, z, fr, R.av, r1, r2, e, n⟩
theorem se_neg {a : E} {l : Expr} {p : Pos} (ha : Snd X cl W l (evP φ a)) : Snd X cl W (.UnaryOp .USub l p) (evP φ (.neg a)) := by
  unfold evP
  refine snd_mk (PE.imp' (pe_un un_neg ha.1) (post1 fun A σ r H x v Q R q h => ?_))
  obtain ⟨a, z, fr, r1, e, n⟩ := op1_post R q h
  cases a <;> try (cases e; done)
  rename_i i
  cases e
  exact ⟨i, r1, n _ _ (.here (.int _))⟩
theorem room1' {A : Around} (h : A.units + 65 < cLine) : A.units + 1 < cLine := room1 h
theorem cpV_post {K : PySem.W.Frag} {c : Cp} {A : Addr → Prop} {σ : Sg} {r : Rho} {H : Hp} {x y : AV} {v u : V} {Q : VK} (Rr : Rl K A σ H r) (q : HV K A σ H r v x) (q2 : HV K A σ H r u y) {f : Bool → Rho → R AV}
    (h : PostE K cl W A σ r H Q ((cpV c x y r).bind f)) : ∃ a b k, RepB (Av A σ r) H v a ∧ RepX K (cpR c) (Av A σ r) H u b ∧ cpD c a b = some k ∧ PostE K cl W A σ r H Q (f k r) := by
  rcases cpV_cases (c := c) Rr q q2 with e | ⟨a, b, k, h1, h2, h3, e⟩
  · rw [e] at h; exact h.elim
  · rw [e] at h
    exact ⟨a, b, k, h1, h2, h3, h⟩
theorem te_cmp {c : Cp} {eva evb : Rho → R AV} : ∀ σ H Q, tEv X.K cl W (fun r => (eva r).bind fun x r1 => (evb r1).bind fun y r2 => (cpV c x y r2).bind fun k r3 => .ok (.d (.bool k) false) r3) σ H Q → tOp (rCp X.K c) (tEv X.K cl W eva) (tEv X.K cl W evb) σ H Q := by
  refine post2 fun A σ r H x y v u Q R q q2 h => ?_
  obtain ⟨a, b, k, r1, r2, e, n⟩ := cpV_post R q q2 h
  exact ⟨Av A σ r, a, b, k, R.av, r1, r2, e, n _ _ (.bl R)⟩
theorem tEv_mono {K : PySem.W.Frag} {ev : Rho → R AV} {σ : Sg} {H : Hp} {Q Q' : VK} (h : tEv K cl W ev σ H Q) (k : ∀ v H', Q v H' → Q' v H') : tEv K cl W ev σ H Q' := by
  obtain ⟨A, r, R, h⟩ := h
  exact ⟨A, r, R, h.mono k⟩
theorem rCp_mono {K : PySem.W.Frag} {c : Cp} {x y : V} {H : Hp} {Q Q' : VK} (h : rCp K c x y H Q) (k : ∀ b, Q (.bl b) H → Q' (.bl b) H) : rCp K c x y H Q' := by
  obtain ⟨A, a, b, k1, h1, h2, h3, h4, h5⟩ := h
  exact ⟨A, a, b, k1, h1, h2, h3, h4, k _ h5⟩
theorem tru_bl {K : PySem.W.Frag} {b k : Bool} {H : Hp} (h : TruV K (.bl b) H k) : k = b := h
theorem se_cmp (ok : XOk G cl W φ s X) {c : Cp} {a b : E} {l r : Expr} {p : Pos} (ha : Snd X cl W l (evP φ a)) (hb : Snd X cl W r (evP φ b)) (hm : behindInMarks (cpo c) r = false) : Snd X cl W (.Compare l [cpo c] [r] p) (evP φ (.cmp c a b)) := by
  unfold evP
  refine ⟨PE.imp' (pe_cmpR (cp_ok ok.units c) ha.1 hb.1 hm) te_cmp, PT.imp' (pt_cmpR (cp_ok ok.units c) ha.1 hb.1 hm) fun σ H Q h => ?_⟩
  have h := te_cmp _ _ _ (post_truth _ _ _ h)
  exact tEv_mono h fun x H1 h1 => tEv_mono h1 fun y H2 h2 => rCp_mono h2 fun b h3 => by
    obtain ⟨k, h4, h5⟩ := h3
    rw [tru_bl h4] at h5
    exact ⟨b, rfl, h5⟩
theorem te_chain {c c' : Cp} {eva evb evc : Rho → R AV} : ∀ σ H Q, tEv X.K cl W (fun r => (eva r).bind fun x r1 => (evb r1).bind fun y r2 => (cpV c x y r2).bind fun k r3 => if k then (evc r3).bind fun z r4 => (cpV c' y z r4).bind fun k' r5 => .ok (.d (.bool k') false) r5
      else .ok (.d (.bool false) false) r3) σ H Q → tChain (rCp X.K c) (rCp X.K c') (tEv X.K cl W eva) (tEv X.K cl W evb) (tEv X.K cl W evc) σ H Q := by
  rintro σ H Q ⟨A, r, R, h⟩
  refine ⟨A, r, R, (PostE.bind h).mono ?_⟩
  rintro v H1 ⟨A1, r1, x, R1, q1, c1, h1⟩
  refine ⟨A1, r1, R1, (PostE.bind h1).mono ?_⟩
  rintro u H2 ⟨A2, r2, y, R2, q2, c2, h2⟩
  obtain ⟨a, b, k, g1, g2, e, n⟩ := cpV_post R2 (c2 _ _ q1) q2 h2
  refine ⟨_, a, b, k, R2.av, g1, g2, e, k, rfl, ?_⟩
  cases k with
  | false => exact n _ _ (.bl R2)
  | true =>
    show tEv X.K cl W evc σ H2 _
    refine ⟨A2, r2, R2, (PostE.bind n).mono ?_⟩
    rintro w H3 ⟨A3, r3, z, R3, q3, c3, h3⟩
    obtain ⟨a', b', k', g1', g2', e', n'⟩ := cpV_post R3 (c3 _ _ q2) q3 h3
    exact ⟨_, a', b', k', R3.av, g1', g2', e', n' _ _ (.bl R3)⟩
theorem tChain_bl {K : PySem.W.Frag} {c c' : Cp} {eva evb evc : Rho → R AV} {σ : Sg} {H : Hp} {Q : Bool → Hp → Prop} (h : tChain (rCp K c) (rCp K c') (tEv K cl W eva) (tEv K cl W evb) (tEv K cl W evc) σ H fun x H' => ∃ k, TruV K x H' k ∧ Q k H') :
    tTest (tChain (rCp K c) (rCp K c') (tEv K cl W eva) (tEv K cl W evb) (tEv K cl W evc)) σ H Q := by
  have go : ∀ b H', (∃ k, TruV K (.bl b) H' k ∧ Q k H') → ∃ k, V.bl b = .bl k ∧ Q k H' := fun b H' ⟨k, h4, h5⟩ => by
    rw [tru_bl h4] at h5
    exact ⟨b, rfl, h5⟩
  refine tEv_mono h fun x H1 h1 => tEv_mono h1 fun y H2 h2 => rCp_mono h2 fun b h3 => ?_
  obtain ⟨k, e, h3⟩ := h3
  refine ⟨k, e, ?_⟩
  cases k with
  | false => exact go _ _ h3
  | true => exact tEv_mono h3 fun z H3 h4 => rCp_mono h4 fun b => go b _
theorem se_chain (ok : XOk G cl W φ s X) {c c' : Cp} {a b d : E} {l r r' : Expr} {p : Pos} (ha : Snd X cl W l (evP φ a)) (hb : Snd X cl W r (evP φ b)) (hd : Snd X cl W r' (evP φ d)) (hm : lastMarks [cpo c, cpo c'] [r, r'] = false) :
    Snd X cl W (.Compare l [cpo c, cpo c'] [r, r'] p) (evP φ (.chain c c' a b d)) := by
  unfold evP
  exact ⟨PE.imp' (pe_chain (cp_ok ok.units c) (cp_ok ok.units c') ha.1 hb.1 hd.1 hm) te_chain, PT.imp' (pt_chain (cp_ok ok.units c) (cp_ok ok.units c') ha.1 hb.1 hd.1 hm) fun σ H Q h => tChain_bl (te_chain _ _ _ (post_truth _ _ _ h))⟩

/-! ### not, and, or, if -/
theorem asBool_post {K : PySem.W.Frag} {A : Addr → Prop} {σ : Sg} {r : Rho} {H : Hp} {x : AV} {v : V} {Q : VK} (q : HV K A σ H r v x) {f : Bool → Rho → R AV} (h : PostE K cl W A σ r H Q ((asBool x r).bind f)) : ∃ b, v = .bl b ∧ PostE K cl W A σ r H Q (f b r) := by
  match x, q, h with
  | .d (.bool b) false, q, h =>
    have q : Rep (Av A σ r) H v (.bool b) := q
    cases q
    exact ⟨b, rfl, h⟩
  | .d (.bool b) true, ⟨p, _, _, _, o⟩, h => exact o.elim
  | .d .none _, q, h => exact h.elim
  | .d (.int _) _, q, h => exact h.elim
  | .d (.str _) _, q, h => exact h.elim
  | .d (.list _) _, q, h => exact h.elim
  | .d (.tuple _) _, q, h => exact h.elim
  | .d (.dict _) _, q, h => exact h.elim
  | .var _, q, h => exact h.elim
  | .cst _, q, h => exact h.elim
theorem se_not {a : E} {l : Expr} {p : Pos} (ha : Snd X cl W l (evP φ a)) : Snd X cl W (.UnaryOp .Not l p) (evP φ (.not a)) := by
  unfold evP
  constructor
  · refine PE.imp' (pe_not ha.1) ?_
    rintro σ H Q ⟨A, r, R, h⟩
    refine ⟨A, r, R, (PostE.bind h).mono ?_⟩
    rintro v H1 ⟨A1, r1, x, R1, q1, c1, h1⟩
    obtain ⟨b, e, h2⟩ := asBool_post q1 h1
    exact ⟨b, e, h2 _ _ (.bl R1)⟩
  · refine PT.imp' (pt_not ha.2) ?_
    rintro σ H Q ⟨A, r, R, h⟩
    refine ⟨A, r, R, (PostT.bindT h).mono ?_⟩
    rintro v H1 ⟨r1, R1, h1⟩
    exact h1 _ .refl R1
theorem te_and {eva evb : Rho → R AV} : ∀ σ H Q, tEv X.K cl W (fun r => (eva r).bind fun x r1 => (asBool x r1).bind fun k r2 => if k then evb r2 else .ok (.d (.bool false) false) r2) σ H Q → tAndV (tEv X.K cl W eva) (tEv X.K cl W evb) σ H Q := by
  rintro σ H Q ⟨A, r, R, h⟩
  refine ⟨A, r, R, (PostE.bind h).mono ?_⟩
  rintro v H1 ⟨A1, r1, x, R1, q1, c1, h1⟩
  obtain ⟨b, e, h2⟩ := asBool_post q1 h1
  refine ⟨b, e, ?_⟩
  cases b with
  | false => exact h2 _ _ (.bl R1)
  | true => exact ⟨A1, r1, R1, h2⟩
theorem te_or {eva evb : Rho → R AV} : ∀ σ H Q, tEv X.K cl W (fun r => (eva r).bind fun x r1 => (asBool x r1).bind fun k r2 => if k then .ok (.d (.bool true) false) r2 else evb r2) σ H Q → tOrV (tEv X.K cl W eva) (tEv X.K cl W evb) σ H Q := by
  rintro σ H Q ⟨A, r, R, h⟩
  refine ⟨A, r, R, (PostE.bind h).mono ?_⟩
  rintro v H1 ⟨A1, r1, x, R1, q1, c1, h1⟩
  obtain ⟨b, e, h2⟩ := asBool_post q1 h1
  refine ⟨b, e, ?_⟩
  cases b with
  | true => exact h2 _ _ (.bl R1)
  | false => exact ⟨A1, r1, R1, h2⟩
theorem tt_and {eva evb : Rho → R Bool} : ∀ σ H Q, tTv X.K cl W (fun r => (eva r).bind fun k r1 => if k then evb r1 else .ok false r1) σ H Q → tAnd (tTv X.K cl W eva) (tTv X.K cl W evb) σ H Q := by
  rintro σ H Q ⟨A, r, R, h⟩
  refine ⟨A, r, R, (PostT.bindT h).mono ?_⟩
  rintro k H1 ⟨r1, R1, h1⟩
  cases k with
  | false => exact h1 _ .refl R1
  | true => exact ⟨A, r1, R1, h1⟩
theorem tt_or {eva evb : Rho → R Bool} : ∀ σ H Q, tTv X.K cl W (fun r => (eva r).bind fun k r1 => if k then .ok true r1 else evb r1) σ H Q → tOr (tTv X.K cl W eva) (tTv X.K cl W evb) σ H Q := by
  rintro σ H Q ⟨A, r, R, h⟩
  refine ⟨A, r, R, (PostT.bindT h).mono ?_⟩
  rintro k H1 ⟨r1, R1, h1⟩
  cases k with
  | true => exact h1 _ .refl R1
  | false => exact ⟨A, r1, R1, h1⟩
/-- a test of and, or: whatever its whole is -/
theorem pw_of {op : BoolOp} {es : List Expr} {p : Pos} {t : TT} (h : PT X (.BoolOp op es p) t) : PW X (.BoolOp op es p) t := ⟨fun w pins s σ H Q I q => h.run pins s σ H Q I q⟩
theorem se_and {a b : E} {l r : Expr} {rest : List Expr} {p : Pos} (ha : Snd X cl W l (evP φ a)) (hb : rest = [] → Snd X cl W r (evP φ b)) (hb2 : rest ≠ [] → Snd X cl W (.BoolOp .And (r :: rest) p) (evP φ b)) :
    Snd X cl W (.BoolOp .And (l :: r :: rest) p) (evP φ (.and a b)) := by
  have h1 : PE X (.BoolOp .And (r :: rest) p) (tEv X.K cl W (evP φ b).1) ∧ PW X (.BoolOp .And (r :: rest) p) (tTv X.K cl W (evP φ b).2) := by
    cases rest with
    | nil => exact ⟨pe_one (hb rfl).1, pw_and1 (hb rfl).2⟩
    | cons x xs => exact ⟨(hb2 (by simp)).1, pw_of (hb2 (by simp)).2⟩
  unfold evP
  exact ⟨PE.imp' (pe_and ha.1 h1.1) te_and, PT.imp' (pw_and ha.2 h1.2).pt tt_and⟩
theorem se_or {a b : E} {l r : Expr} {rest : List Expr} {p : Pos} (ha : Snd X cl W l (evP φ a)) (hb : rest = [] → Snd X cl W r (evP φ b)) (hb2 : rest ≠ [] → Snd X cl W (.BoolOp .Or (r :: rest) p) (evP φ b)) :
    Snd X cl W (.BoolOp .Or (l :: r :: rest) p) (evP φ (.or a b)) := by
  have h1 : PE X (.BoolOp .Or (r :: rest) p) (tEv X.K cl W (evP φ b).1) ∧ PW X (.BoolOp .Or (r :: rest) p) (tTv X.K cl W (evP φ b).2) := by
    cases rest with
    | nil => exact ⟨pe_one (hb rfl).1, pw_or1 (hb rfl).2⟩
    | cons x xs => exact ⟨(hb2 (by simp)).1, pw_of (hb2 (by simp)).2⟩
  unfold evP
  exact ⟨PE.imp' (pe_or ha.1 h1.1) te_or, PT.imp' (pw_or ha.2 h1.2).pt tt_or⟩
theorem pt_if {c a b : Expr} {p : Pos} {tc ta tb : TT} (hc : PT X c tc) (ha : PT X a ta) (hb : PT X b tb) : PT X (.IfExp c a b p) (fun σ H Q => tc σ H fun k H1 => if k = true then ta σ H1 Q else tb σ H1 Q) := by
  refine ⟨fun pins s σ H Q I h => ?_⟩
  show wpAny (model X.prog X.w) X.A (do if ← isTrue c X.env (eval c X.env) then isTrue a X.env (eval a X.env) else isTrue b X.env (eval b X.env)) _ _ s
  refine wpAny_bind (thn (hc.run pins s σ H _ I h) fun k s1 ⟨H1, I1, q1⟩ => ?_)
  cases k with
  | true => exact ha.run pins s1 σ H1 Q I1 q1
  | false => exact hb.run pins s1 σ H1 Q I1 q1
theorem se_ite {c a b : E} {x l r : Expr} {p : Pos} (hc : Snd X cl W x (evP φ c)) (ha : Snd X cl W l (evP φ a)) (hb : Snd X cl W r (evP φ b)) : Snd X cl W (.IfExp x l r p) (evP φ (.ite c a b)) := by
  unfold evP
  constructor
  · refine PE.imp' (pe_ifExp hc.2 ha.1 hb.1) ?_
    rintro σ H Q ⟨A, r, R, h⟩
    refine ⟨A, r, R, (PostE.bindT h).mono ?_⟩
    rintro k H1 ⟨r1, R1, h1⟩
    cases k with
    | true => exact ⟨A, r1, R1, h1⟩
    | false => exact ⟨A, r1, R1, h1⟩
  · refine PT.imp' (pt_if hc.2 ha.2 hb.2) ?_
    rintro σ H Q ⟨A, r, R, h⟩
    refine ⟨A, r, R, (PostT.bindT h).mono ?_⟩
    rintro k H1 ⟨r1, R1, h1⟩
    cases k with
    | true => exact ⟨A, r1, R1, h1⟩
    | false => exact ⟨A, r1, R1, h1⟩
end
end Ev
/-! Expressions keep what they compute: containers, subscripts, calls. -/
namespace Ev
open PySem PySem.Spec PyProof.Rows L2
section
variable {G : Cg} {cl : ClsT} {W : WX} {φ : Phi} {s : Sc} {X : Cx}

/-! ### values that are kept -/
/-- a state where some variable's object is a variable's object no more -/
theorem Rl.freeze {K : PySem.W.Frag} {A : Addr → Prop} {σ : Sg} {r : Rho} {H : Hp} {i : Nat} {o : Ob} {x : D} {p : Addr} (R : Rl K A σ H r) (e : r[i]? = some (some (.own o true))) (es : σ[i]? = some (some (.ref p))) (ho : obR o = some x) :
    Stp σ r (r.set i (some (.d x))) H H ∧ Rl K A σ H (r.set i (some (.d x))) ∧ Rep (Av A σ (r.set i (some (.d x)))) H (.ref p) x := by
  have hi : i < r.length := (List.getElem?_eq_some_iff.mp e).1
  have hself : (r.set i (some (.d x)))[i]? = some (some (.d x)) := List.getElem?_set_self hi
  have hne : ∀ j, i ≠ j → (r.set i (some (SV.d x)))[j]? = r[j]? := fun j h => List.getElem?_set_ne h
  have slot : ∀ (j : Nat) (o' : Ob) (m : Bool), (r.set i (some (.d x)))[j]? = some (some (.own o' m)) → i ≠ j ∧ r[j]? = some (some (.own o' m)) := fun j o' m h => by
    by_cases q : i = j
    · subst q; rw [hself] at h; cases h
    · rw [hne j q] at h; exact ⟨q, h⟩
  have st : Stp σ r (r.set i (some (.d x))) H H := ⟨fun _ _ h _ => h, fun _ => Nat.le_refl _, fun j o' m h => ⟨o', (slot j o' m h).2⟩⟩
  have sub : ∀ q, Av A σ (r.set i (some (.d x))) q → Av A σ r q := fun q z => z.imp id (st.own q)
  obtain ⟨p', e1, ob, na⟩ := R.own i o true e
  rw [es] at e1
  cases e1
  have npA : ¬ A p := na rfl
  have npO : ¬ Own σ (r.set i (some (.d x))) p := by
    rintro ⟨j, o', m, h1, h2⟩
    obtain ⟨h3, h4⟩ := slot j o' m h1
    exact h3 (R.inj i j _ _ _ _ p e h4 es h2)
  have rx : Rep (Av A σ (r.set i (some (.d x)))) H (.ref p) x := by
    have ob := ob.mono sub
    have np : ¬ Av A σ (r.set i (some (.d x))) p := fun z => z.elim npA npO
    cases o with
    | lst xs =>
      cases ho
      obtain ⟨vs, h1, h2⟩ := ob
      exact .lst np h1 h2
    | dk kvs =>
      cases ho
      obtain ⟨vs, h1, h2⟩ := ob
      exact .dct np h1 h2
    | dt kvs => cases ho
  refine ⟨st, ⟨by rw [List.length_set]; exact R.len, fun j y h => ?_, fun j o' m h => ?_, fun j y h => ?_, fun j j' o1 m1 o2 m2 q h1 h2 h3 h4 => R.inj j j' _ _ _ _ q (slot _ _ _ h1).2 (slot _ _ _ h2).2 h3 h4, R.al⟩, rx⟩
  · by_cases q : i = j
    · subst q
      rw [hself] at h
      cases h
      exact ⟨_, es, rx⟩
    · rw [hne j q] at h
      obtain ⟨v, h1, h2⟩ := R.d j y h
      exact ⟨v, h1, h2.mono sub⟩
  · obtain ⟨h3, h4⟩ := slot j o' m h
    obtain ⟨q, h5, h6, h7⟩ := R.own j _ _ h4
    exact ⟨q, h5, h6.mono sub, h7⟩
  · have h4 : r[j]? = some (some (.ro y)) := by
      by_cases q : i = j
      · subst q; rw [hself] at h; cases h
      · rw [hne j q] at h; exact h
    obtain ⟨v, h1, h2⟩ := R.ro j y h4
    exact ⟨v, h1, h2.mono sub⟩
theorem fz_post {K : PySem.W.Frag} {A : Addr → Prop} {σ : Sg} {r r1 : Rho} {H H1 : Hp} {v : V} {x : AV} {Q : V → Hp → Prop} (al : Allo A H) (ok : OkE K A σ r H v H1 x r1) (h : PostD K cl W A σ r H Q (fz r1 x)) : Q v H1 := by
  obtain ⟨st, ok⟩ := ok.unfr al
  match x, ok, h with
  | .d y false, ok, h => exact h v H1 st ok.1 ok.2
  | .d y true, ok, h => exact h v H1 st ok.1 ok.2
  | .cst y, ok, h => exact h.elim
  | .var i, ⟨R1, hv⟩, h =>
    have hv : σ[i]? = some (some v) := hv
    have h : PostD K cl W A σ r H Q (match r1[i]? with
      | some (some (.d x)) => .ok x r1
      | some (some (.own (.lst xs) true)) => .ok (.list xs) (r1.set i (some (.d (.list xs))))
      | some (some (.own (.dk kvs) true)) => .ok (.dict kvs) (r1.set i (some (.d (.dict kvs))))
      | _ => .stuck) := h
    split at h
    · rename_i y e
      obtain ⟨u, e1, e2⟩ := R1.d i y e
      rw [hv] at e1
      cases e1
      exact h v H1 st R1 e2
    · rename_i xs e
      obtain ⟨p, e1, _, _⟩ := R1.own i _ _ e
      rw [hv] at e1
      cases e1
      obtain ⟨s2, R2, rx⟩ := R1.freeze e hv (x := .list xs) rfl
      exact h _ H1 (st.trans s2) R2 rx
    · rename_i xs e
      obtain ⟨p, e1, _, _⟩ := R1.own i _ _ e
      rw [hv] at e1
      cases e1
      obtain ⟨s2, R2, rx⟩ := R1.freeze e hv (x := .dict xs) rfl
      exact h _ H1 (st.trans s2) R2 rx
    · exact h.elim
theorem te_dof {K : PySem.W.Frag} {ev : Rho → R AV} : ∀ σ H Q, tDv K cl W (dof ev) σ H Q → tEv K cl W ev σ H Q := by
  rintro σ H Q ⟨A, r, R, h⟩
  refine ⟨A, r, R, ?_⟩
  unfold dof at h
  generalize ev r = ra at h ⊢
  cases ra with
  | stuck => exact h
  | exc c fs r' => exact h
  | ok x r1 => exact fun v H1 ok => fz_post R.al ok h
theorem PostD.bind {K : PySem.W.Frag} {A : Addr → Prop} {σ : Sg} {r : Rho} {H : Hp} {Q : VK} {x : R D} {f : D → Rho → R AV} (h : PostE K cl W A σ r H Q (x.bind f)) :
    PostD K cl W A σ r H (fun v H1 => ∃ r1 a, Rl K A σ H1 r1 ∧ Rep (Av A σ r1) H1 v a ∧ (∀ u y, HV K A σ H r u y → HV K A σ H1 r1 u y) ∧ PostE K cl W A σ r1 H1 Q (f a r1)) x := by
  cases x with
  | stuck => exact h
  | exc c fs r' => exact h
  | ok a r1 => exact fun v H1 st R1 q => ⟨r1, a, R1, q, fun u y q => q.step st (fun _ z => z) (fun _ z => .inl z), PostE.back st (fun _ z => z) h⟩

/-! ### argument lists -/
theorem PostA.back1 {K : PySem.W.Frag} {A : Addr → Prop} {σ : Sg} {r r1 : Rho} {H H1 : Hp} {Q : List V → Hp → Prop} {res : R (List AV)} (s : Stp σ r r1 H H1) (q : PostA K cl W A σ r H Q res) : PostA K cl W A σ r1 H1 Q res := by
  cases res with
  | ok av r' => exact fun v H' s' R o => q v H' (s.trans s') R o
  | exc c fs r' => exact PostX.back s (fun _ z => z) q
  | stuck => exact q
theorem ta_nilL : ∀ σ H Q, tLv X.K cl W (fun r => Ev.R.ok [] r) σ H Q → tNil σ H Q := by
  rintro σ H Q ⟨A, r, R, h⟩
  exact h [] H .refl R .nil
theorem ta_consL {eva : Rho → R D} {evs : Rho → R (List D)} {K : PySem.W.Frag} : ∀ σ H Q, tLv K cl W (fun r => (eva r).bind fun x r1 => (evs r1).bind fun xs r2 => .ok (x :: xs) r2) σ H Q → tDv K cl W eva σ H fun x H1 => tLv K cl W evs σ H1 fun xs H2 => Q (x :: xs) H2 := by
  rintro σ H Q ⟨A, r, R, h⟩
  refine ⟨A, r, R, ?_⟩
  dsimp only at h
  generalize eva r = ra at h ⊢
  cases ra with
  | stuck => exact h
  | exc c fs r' => exact h
  | ok x r1 =>
    intro v H1 s1 R1 q1
    refine ⟨A, r1, R1, ?_⟩
    have h := PostL.back s1 (fun _ z => z) h
    simp only [Ev.R.bind] at h
    generalize evs r1 = rb at h ⊢
    cases rb with
    | stuck => exact h
    | exc c fs r' => exact h
    | ok xs r2 =>
      intro vs H2 s2 R2 q2
      exact h _ H2 s2 R2 (.cons (q1.step (fun p o e n => s2.keep p o e fun z => n (.inr z)) fun p z => .inl (z.imp id (s2.own p))) q2)
theorem ta_nilA : ∀ σ H Q, tAv X.K cl W (fun r => Ev.R.ok [] r) σ H Q → tNil σ H Q := by
  rintro σ H Q ⟨A, r, R, h⟩
  exact h [] H .refl R .nil
theorem ta_consA {eva : Rho → R AV} {evs : Rho → R (List AV)} {K : PySem.W.Frag} : ∀ σ H Q, tAv K cl W (fun r => (eva r).bind fun x r1 => (evs r1).bind fun xs r2 => .ok (unfr x :: xs) r2) σ H Q → tEv K cl W eva σ H fun x H1 => tAv K cl W evs σ H1 fun xs H2 => Q (x :: xs) H2 := by
  rintro σ H Q ⟨A, r, R, h⟩
  refine ⟨A, r, R, ?_⟩
  dsimp only at h
  generalize eva r = ra at h ⊢
  cases ra with
  | stuck => exact h
  | exc c fs r' => exact h
  | ok x r1 =>
    intro v H1 ok
    obtain ⟨s1, q1⟩ := ok.unfr R.al
    have q1 : Rl K A σ H1 r1 ∧ HV K A σ H1 r1 v (unfr x) := by
      cases x with
      | d y fr => exact q1
      | var i => exact q1
      | cst y => exact q1
    refine ⟨A, r1, q1.1, ?_⟩
    have h := PostA.back1 s1 h
    simp only [Ev.R.bind] at h
    generalize evs r1 = rb at h ⊢
    cases rb with
    | stuck => exact h
    | exc c fs r' => exact h
    | ok xs r2 =>
      intro vs H2 s2 R2 q2
      exact h _ H2 s2 R2 (.cons (q1.2.step s2 (fun _ z => z) (fun _ z => .inl z)) q2)
theorem star_cons {l : Expr} {ls : List Expr} {env : Env} (h : isStar l = false) : starEach (l :: ls) env = (false, eval l env) :: starEach ls env := by
  cases l <;> first | rfl | cases h
def noStar : List Expr → Bool
  | [] => true
  | l :: ls => !isStar l && noStar ls
theorem star_any {env : Env} {pos : Pos} : ∀ {ls : List Expr}, noStar ls = true → (backTo pos (starEach ls env)).any (·.1) = false
  | [], _ => rfl
  | l :: ls, h => by
    simp only [noStar, Bool.and_eq_true, Bool.not_eq_true'] at h
    rw [star_cons h.1]
    show (false || (backTo pos (starEach ls env)).any (·.1)) = false
    rw [star_any h.2]
    rfl
theorem star_all {env : Env} {pos : Pos} : ∀ {ls : List Expr}, noStar ls = true → (backTo pos (starEach ls env)).all (fun x => !x.1) = true
  | [], _ => rfl
  | l :: ls, h => by
    simp only [noStar, Bool.and_eq_true, Bool.not_eq_true'] at h
    rw [star_cons h.1]
    show (true && (backTo pos (starEach ls env)).all (fun x => !x.1)) = true
    rw [star_all h.2]
    rfl
theorem chkEs_cons {e : E} {es : Es} {ls : List Expr} (h : chkEs G (.cons e es) s ls = true) : ∃ l ls', ls = l :: ls' ∧ isStar l = false ∧ chkE G e s l = true ∧ chkEs G es s ls' = true := by
  cases ls with
  | nil => cases h
  | cons l ls =>
    have h : (!isStar l && chkE G e s l && chkEs G es s ls) = true := h
    simp only [Bool.and_eq_true, Bool.not_eq_true'] at h
    exact ⟨l, ls, rfl, h.1.1, h.1.2, h.2⟩
theorem chkEs_nil {ls : List Expr} (h : chkEs G .nil s ls = true) : ls = [] := by
  cases ls with
  | nil => rfl
  | cons l ls => cases h
def Es.len : Es → Nat
  | .nil => 0
  | .cons _ es => es.len + 1
theorem chkEs_len : ∀ {es : Es} {ls : List Expr}, chkEs G es s ls = true → noStar ls = true ∧ ls.length = es.len
  | .nil, ls, h => by rw [chkEs_nil h]; exact ⟨rfl, rfl⟩
  | .cons e es, ls, h => by
    obtain ⟨l, ls', rfl, h1, _, h2⟩ := chkEs_cons h
    obtain ⟨h3, h4⟩ := chkEs_len h2
    exact ⟨by simp [noStar, h1, h3], by simp [Es.len, h4]⟩
theorem evDs_len : ∀ {es : Es} {r r' : Rho} {xs : List D}, evDs φ es r = .ok xs r' → xs.length = es.len
  | .nil, r, r', xs, h => by
    have h : Ev.R.ok ([] : List D) r = .ok xs r' := h
    cases h
    rfl
  | .cons e es, r, r', xs, h => by
    have h : ((dof (evP φ e).1 r).bind fun x r1 => (evDs φ es r1).bind fun xs r2 => .ok (x :: xs) r2) = .ok xs r' := h
    cases e1 : dof (evP φ e).1 r with
    | stuck => rw [e1] at h; cases h
    | exc c fs r1 => rw [e1] at h; cases h
    | ok x r1 =>
      rw [e1] at h
      have h : ((evDs φ es r1).bind fun xs r2 => .ok (x :: xs) r2) = .ok xs r' := h
      cases e2 : evDs φ es r1 with
      | stuck => rw [e2] at h; cases h
      | exc c fs r1 => rw [e2] at h; cases h
      | ok ys r2 =>
        rw [e2] at h
        cases h
        rw [List.length_cons, evDs_len e2]
        rfl

/-! ### tuples, lists, dicts -/
theorem tEv_imp {K : PySem.W.Frag} {ev : Rho → R AV} {σ : Sg} {H : Hp} {Q : VK} (h : tEv K cl W ev σ H Q) : ∃ A r, Rl K A σ H r ∧ PostE K cl W A σ r H Q (ev r) := h
theorem PostL.of {K : PySem.W.Frag} {A : Addr → Prop} {σ : Sg} {r : Rho} {H : Hp} {Q : VK} {x : R (List D)} {f : List D → Rho → R AV} (h : PostE K cl W A σ r H Q (x.bind f)) {Q2 : List V → Hp → Prop}
    (k : ∀ xs r1 vs H1, x = .ok xs r1 → Stp σ r r1 H H1 → Rl K A σ H1 r1 → RepL (Av A σ r1) H1 vs xs → PostE K cl W A σ r1 H1 Q (f xs r1) → Q2 vs H1) : PostL K cl W A σ r H Q2 x := by
  cases x with
  | stuck => exact h
  | exc c fs r' => exact h
  | ok xs r1 => exact fun vs H1 s1 R1 q1 => k xs r1 vs H1 rfl s1 R1 q1 (PostE.back s1 (fun _ z => z) h)
theorem few_line {ls : List Expr} {es : Es} (h : few ls = true) (h2 : chkEs G es s ls = true) : es.len ≤ sizeLine := by
  have h : ls.length < 29 := of_decide_eq_true h
  rw [(chkEs_len h2).2] at h
  rw [sizeLine_eq]
  omega
theorem se_tup {es : Es} {ls : List Expr} {k : Nat} {p : Pos} (h1 : chkEs G es s ls = true) (h2 : few ls = true) (ha : PA X ls (tLv X.K cl W (evDs φ es))) : Snd X cl W (.Tuple ls k p) (evP φ (.tup es)) := by
  unfold evP
  refine snd_mk (PE.imp' (pe_tup ha) ?_)
  rintro σ H Q ⟨A, r, R, h⟩
  refine ⟨A, r, R, PostL.of h fun xs r1 vs H1 e st R1 q1 hq => ?_⟩
  refine ⟨by rw [q1.length, evDs_len e]; exact few_line h2 h1, fun p hp => ?_⟩
  exact hq _ _ (.ofNew R1 (.tup R1.av hp q1))
theorem se_lst {es : Es} {ls : List Expr} {p : Pos} (h1 : chkEs G es s ls = true) (h2 : few ls = true) (ha : PA X ls (tLv X.K cl W (evDs φ es))) : Snd X cl W (.List ls p) (evP φ (.lst es)) := by
  unfold evP
  refine snd_mk (PE.imp' (pe_lst ha) ?_)
  rintro σ H Q ⟨A, r, R, h⟩
  refine ⟨A, r, R, PostL.of h fun xs r1 vs H1 e st R1 q1 hq => ?_⟩
  refine ⟨by rw [q1.length, evDs_len e]; exact few_line h2 h1, fun p hp => ?_⟩
  exact hq _ _ (.ofNew R1 (.lst R1.av hp q1))
theorem se_dict0 {p : Pos} : Snd X cl W (.Dict [] [] p) (evP φ .dict0) := by
  unfold evP
  refine snd_mk (PE.imp' pe_dnewK ?_)
  rintro σ H Q ⟨A, r, R, h⟩
  intro p hp
  exact h _ _ (.ofNew R ⟨Ev.grow hp, p, rfl, hp, R.av.na hp, [], upd_same, .nil⟩)

/-! ### subscripts -/
theorem plainIx_of {r : Expr} (h : isSlice r = false) : PlainIx r := by
  intro o i
  cases r <;> first | rfl | cases h
theorem se_ix {a b : E} {l r : Expr} {p : Pos} (ha : Snd X cl W l (evP φ a)) (hb : Snd X cl W r (evP φ b)) (hs : isSlice r = false) : Snd X cl W (.Subscript l r p) (evP φ (.ix a b)) := by
  unfold evP
  refine snd_mk (PE.imp' (pe_ix ix_ok ha.1 hb.1 (plainIx_of hs)) (post2 fun A σ r H x y v u Q R q q2 h => ?_))
  unfold ixV at h
  cases e : rdr r x with
  | none => rw [e] at h; exact h.elim
  | some a =>
    cases e1 : rd r y with
    | none => rw [e, e1] at h; exact h.elim
    | some b =>
      rw [e, e1] at h
      dsimp only at h
      cases e2 : ixD a b with
      | none => rw [e2] at h; exact h.elim
      | some z =>
        rw [e2] at h
        exact ⟨Av A σ r, a, b, z, rdr_ok R q e, rd_ok R q2 e1, e2, fun v rv => h v H (.c R rv)⟩
theorem se_dix (ok : XOk G cl W φ s X) {a b : E} {l r : Expr} {p : Pos} (ha : Snd X cl W l (evP φ a)) (hb : Snd X cl W r (evP φ b)) (hs : isSlice r = false) : Snd X cl W (.Subscript l r p) (evP φ (.dix a b)) := by
  unfold evP
  refine snd_mk (PE.imp' (pe_dget (room1 ok.units) ha.1 hb.1 (plainIx_of hs)) ?_)
  refine post2 (t := fun x y H2 Q => ∃ a v, x = .ref a ∧ DGet H2 a y (some v) ∧ Q v H2) fun A σ r H x y v u Q R q q2 h => ?_
  obtain ⟨a, b, z, fr, r1, r2, e, n⟩ := op2v_post R q q2 h
  cases a with
  | dict kvs =>
    have e : ((if isKey b then dfind b kvs else none).map fun z => (z, false)) = some (z, fr) := e
    by_cases hk : isKey b = true
    · rw [if_pos hk] at e
      obtain ⟨p, o, e1, g, ro⟩ := dget_of hk r2 r1
      cases e2 : dfind b kvs with
      | none => rw [e2] at e; cases e
      | some d =>
        rw [e2] at e ro
        cases e
        cases ro with
        | some rv => exact ⟨p, _, e1, g, n _ _ (.here rv)⟩
    · rw [if_neg hk] at e
      cases e
  | _ => cases e
/-- a slice's part -/
def PostO (K : PySem.W.Frag) (cl : ClsT) (W : WX) (A : Addr → Prop) (σ : Sg) (r : Rho) (H : Hp) (Q : Option Int → Hp → Prop) : R (Option Int) → Prop
  | .ok o r' => ∀ H', Stp σ r r' H H' → Rl K A σ H' r' → Q o H'
  | .exc c fs r' => PostX K cl W A σ r H c fs r'
  | .stuck => False
theorem PostO.back {K : PySem.W.Frag} {A A1 : Addr → Prop} {σ : Sg} {r r1 : Rho} {H H1 : Hp} {Q : Option Int → Hp → Prop} {res : R (Option Int)} (s : Stp σ r r1 H H1) (h : ∀ p, A p → A1 p) (q : PostO K cl W A σ r H Q res) : PostO K cl W A1 σ r1 H1 Q res := by
  cases res with
  | ok av r' => exact fun H' s' R => q H' (s.trans s') (R.mono h)
  | exc c fs r' => exact PostX.back s h q
  | stuck => exact q
theorem PostO.bind {K : PySem.W.Frag} {A : Addr → Prop} {σ : Sg} {r : Rho} {H : Hp} {Q : VK} {x : R (Option Int)} {f : Option Int → Rho → R AV} (h : PostE K cl W A σ r H Q (x.bind f)) :
    PostO K cl W A σ r H (fun o H1 => ∃ r1, Rl K A σ H1 r1 ∧ (∀ u y, HV K A σ H r u y → HV K A σ H1 r1 u y) ∧ PostE K cl W A σ r1 H1 Q (f o r1)) x := by
  cases x with
  | stuck => exact h
  | exc c fs r' => exact h
  | ok a r1 => exact fun H1 st R1 => ⟨r1, R1, fun u y q => q.step st (fun _ z => z) (fun _ z => .inl z), PostE.back st (fun _ z => z) h⟩
def tOv (K : PySem.W.Frag) (cl : ClsT) (W : WX) (ev : Rho → R (Option Int)) : TO := fun σ H Q => ∃ A r, Rl K A σ H r ∧ PostO K cl W A σ r H Q (ev r)
def evO (φ : Phi) (es : Es) (r : Rho) : R (Option Int) := (evAs φ es r).bind fun l r2 => R.opt (partAV l) r2
theorem po_nil : PO X none (tOv X.K cl W (evO φ .nil)) := by
  refine PO.imp' po_none ?_
  rintro σ H Q ⟨A, r, R, h⟩
  exact h H .refl R
theorem po_one {e : E} {l : Expr} (ha : Snd X cl W l (evP φ e)) : PO X (some l) (tOv X.K cl W (evO φ (.cons e .nil))) := by
  refine PO.imp' (po_some ha.1) ?_
  rintro σ H Q ⟨A, r, R, h⟩
  refine ⟨A, r, R, ?_⟩
  unfold evO at h
  have h : PostO X.K cl W A σ r H Q ((((evP φ e).1 r).bind fun x r1 => (Ev.R.ok ([] : List AV) r1).bind fun xs r2 => .ok (unfr x :: xs) r2).bind fun l r2 => Ev.R.opt (partAV l) r2) := h
  generalize (evP φ e).1 r = ra at h ⊢
  cases ra with
  | stuck => exact h
  | exc c fs r' => exact h
  | ok x r1 =>
    intro v H1 ok
    obtain ⟨st, ok⟩ := ok.unfr R.al
    have h : PostO X.K cl W A σ r H Q (Ev.R.opt (partAV [unfr x]) r1) := h
    match x, ok, h with
    | .d (.int i) f, ok, h =>
      have ok : Rl X.K A σ H1 r1 ∧ Rep (Av A σ r1) H1 v (.int i) := ok
      obtain ⟨R1, q⟩ := ok
      cases q
      exact ⟨i, rfl, h H1 st R1⟩
    | .d .none _, q, h => exact h.elim
    | .d (.bool _) _, q, h => exact h.elim
    | .d (.str _) _, q, h => exact h.elim
    | .d (.list _) _, q, h => exact h.elim
    | .d (.tuple _) _, q, h => exact h.elim
    | .d (.dict _) _, q, h => exact h.elim
    | .var _, q, h => exact h.elim
    | .cst _, q, h => exact h.elim
theorem se_sl {a : E} {lo hi : Es} {l : Expr} {x y : Option Expr} {p1 p : Pos} (ha : Snd X cl W l (evP φ a)) (hl : PO X x (tOv X.K cl W (evO φ lo))) (hh : PO X y (tOv X.K cl W (evO φ hi))) :
    Snd X cl W (.Subscript l (.Slice x y none p1) p) (evP φ (.sl a lo hi)) := by
  unfold evP
  refine snd_mk (PE.imp' (pe_slice sl_ok ha.1 hl hh) ?_)
  rintro σ H Q ⟨A, r, R, h⟩
  refine ⟨A, r, R, (PostE.bind h).mono ?_⟩
  rintro v H1 ⟨A1, r1, z, R1, q1, c1, h1⟩
  refine ⟨A1, r1, R1, ?_⟩
  have h2 := PostO.bind (x := evO φ lo r1) h1
  generalize evO φ lo r1 = ra at h2 ⊢
  cases ra with
  | stuck => exact h2
  | exc c fs r' => exact h2
  | ok o r2 =>
    intro H2 s2 R2'
    obtain ⟨r2', R2, c2, h3⟩ := h2 H2 s2 R2'
    refine ⟨A1, r2', R2, ?_⟩
    have h4 := PostO.bind (x := evO φ hi r2') h3
    generalize evO φ hi r2' = rb at h4 ⊢
    cases rb with
    | stuck => exact h4
    | exc c fs r' => exact h4
    | ok o2 r3 =>
      intro H3 s3 R3'
      obtain ⟨r3', R3, c3, h5⟩ := h4 H3 s3 R3'
      obtain ⟨a, z, fr, g1, g2, n⟩ := op1l_post R3 (c3 _ _ (c2 _ _ q1)) h5
      exact ⟨Av A1 σ r3', a, z, fr, R3.av, g1, g2, n⟩
theorem se_rev {a : E} {l : Expr} {k : Nat} {p1 p2 p3 p : Pos} (ha : Snd X cl W l (evP φ a)) : Snd X cl W (.Subscript l (.Slice none none (some (.UnaryOp .USub (.Constant (.int 1) k p1) p2)) p3) p) (evP φ (.rev a)) := by
  unfold evP
  refine snd_mk (PE.imp' (pe_revA ha.1) (post1 (t := fun x H1 Q => ∃ a xs, x = .ref a ∧ ((SqL X.K H1 a xs ∧ ∀ p, H1 p = none → Q (.ref p) (upd H1 p (.lst xs.reverse))) ∨ (SqT X.K H1 a xs ∧ ∀ p, H1 p = none → Q (.ref p) (upd H1 p (.tup xs.reverse))))) fun A σ r H x v Q R q h => ?_))
  obtain ⟨a, z, fr, r1, e, n⟩ := op1_post R q h
  cases a <;> try (cases e; done)
  · cases e
    obtain ⟨p, vs, rfl, hp, rl⟩ := r1
    exact ⟨p, vs, rfl, .inl ⟨.of hp, fun d hd => n _ _ (.lst R.av hd rl.reverse)⟩⟩
  · cases e
    obtain ⟨p, vs, rfl, na, hp, rl⟩ := r1
    exact ⟨p, vs, rfl, .inr ⟨.of hp, fun d hd => n _ _ (.tup R.av hd rl.reverse)⟩⟩

/-! ### built-ins -/
theorem blt_of (ok : XOk G cl W φ s X) {x : Str} (h : x ∈ bltN) : X.mg x = none := ok.blt x h
theorem pa_1 {l : Expr} {t : TE} (h : PE X l t) (hs : isStar l = false) : PA X [l] (tCons t tNil) := pa_cons h pa_nil (star_cons hs)
theorem se_len (ok : XOk G cl W φ s X) {a : E} {l : Expr} {q p : Pos} (h1 : isGl s sLen = true) (hs : isStar l = false) (ha : Snd X cl W l (evP φ a)) : Snd X cl W (.Call (.Name sLen q) [l] [] p) (evP φ (.len a)) := by
  unfold evP
  refine snd_mk (PE.imp' (pe_callB len_ok (ok.gl h1) (ok.blt _ (by simp [bltN])) boot_len (pa_1 ha.1 hs) (he := star_cons hs)) (post1 (t := fun x H1 Q => rLenD X.K [x] H1 Q) fun A σ r H x v Q R q h => ?_))
  obtain ⟨a, z, fr, r1, e, n⟩ := op1r_post R q h
  have e : (lenD a).map (fun n => (PyData.int n, false)) = some (z, fr) := e
  cases e2 : lenD a with
  | none => rw [e2] at e; cases e
  | some k =>
    rw [e2] at e
    cases e
    exact ⟨Av A σ r, v, a, k, rfl, r1, e2, n _ _ (.here (.int _))⟩
theorem te_b1 {f : D → Option (D × Bool)} {ev : Rho → R AV} : ∀ σ H Q, tEv X.K cl W (fun r => (ev r).bind fun x r1 => op1 f x r1) σ H Q → tCB (rB1 f) (tCons (tEv X.K cl W ev) tNil) σ H Q := by
  refine post1 (t := fun x H1 Q => rB1 f [x] H1 Q) fun A σ r H x v Q R q h => ?_
  obtain ⟨a, z, fr, r1, e, n⟩ := op1_post R q h
  exact ⟨Av A σ r, v, a, z, fr, R.av, rfl, r1, e, n⟩
theorem bi_sorted' : CallR X (.builtin "sorted") (rB1 (biD .sorted)) := by
  have e : (fun x => match x with
      | PyData.list xs => biD Bi.sorted (PyData.list xs)
      | x => none) = biD .sorted := by
    funext x
    cases x <;> rfl
  rw [← e]
  exact bi_sorted
theorem se_bi (ok : XOk G cl W φ s X) {b : Bi} {a : E} {l : Expr} {q p : Pos} (hb : biY b = true) (h1 : isGl s (biN b) = true) (hs : isStar l = false) (ha : Snd X cl W l (evP φ a)) : Snd X cl W (.Call (.Name (biN b) q) [l] [] p) (evP φ (.bi b a)) := by
  unfold evP
  refine snd_mk (PE.imp' ?_ te_b1)
  cases b with
  | tuple => exact pe_callTy bi_tuple (ok.gl h1) (ok.blt _ (by simp [bltN, biN])) PyProof.Rows.boot_tuple (pa_1 ha.1 hs) (he := star_cons hs)
  | list => exact pe_callTy bi_list (ok.gl h1) (ok.blt _ (by simp [bltN, biN])) PyProof.Rows.boot_list (pa_1 ha.1 hs) (he := star_cons hs)
  | sorted => exact pe_callB bi_sorted' (ok.gl h1) (ok.blt _ (by simp [bltN, biN])) PyProof.Rows.boot_sorted (pa_1 ha.1 hs) (he := star_cons hs)
  | max1 => exact pe_callB (bi_max ok.calm) (ok.gl h1) (ok.blt _ (by simp [bltN, biN])) boot_max (pa_1 ha.1 hs) (he := star_cons hs)
  | min1 => exact pe_callB (bi_min ok.calm) (ok.gl h1) (ok.blt _ (by simp [bltN, biN])) boot_min (pa_1 ha.1 hs) (he := star_cons hs)
  | sum => exact pe_callB (bi_sum ok.calm) (ok.gl h1) (ok.blt _ (by simp [bltN, biN])) boot_sum (pa_1 ha.1 hs) (he := star_cons hs)
  | all => exact pe_callB (bi_all ok.calm) (ok.gl h1) (ok.blt _ (by simp [bltN, biN])) boot_all (pa_1 ha.1 hs) (he := star_cons hs)
  | any => exact pe_callB (bi_any ok.calm) (ok.gl h1) (ok.blt _ (by simp [bltN, biN])) boot_any (pa_1 ha.1 hs) (he := star_cons hs)
  | int => exact pe_callTy bi_int (ok.gl h1) (ok.blt _ (by simp [bltN, biN])) PyProof.Rows.boot_int (pa_1 ha.1 hs) (he := star_cons hs)
  | str => exact pe_callTy bi_str (ok.gl h1) (ok.blt _ (by simp [bltN, biN])) PyProof.Rows.boot_str (pa_1 ha.1 hs) (he := star_cons hs)
  | lenSet => cases hb
  | sortedSet => cases hb
theorem se_bi2 (ok : XOk G cl W φ s X) {b : Bi2} {a c : E} {l r : Expr} {q p : Pos} (h1 : isGl s (bi2N b) = true) (hs : isStar l = false) (hs2 : isStar r = false) (ha : Snd X cl W l (evP φ a)) (hc : Snd X cl W r (evP φ c)) :
    Snd X cl W (.Call (.Name (bi2N b) q) [l, r] [] p) (evP φ (.bi2 b a c)) := by
  unfold evP
  have t : ∀ σ H Q, tEv X.K cl W (fun r => ((evP φ a).1 r).bind fun x r1 => ((evP φ c).1 r1).bind fun y r2 => op2v (bi2D b) x y r2) σ H Q → tCB (rB2 (bi2D b)) (tCons (tEv X.K cl W (evP φ a).1) (tCons (tEv X.K cl W (evP φ c).1) tNil)) σ H Q := by
    refine post2 (t := fun x y H1 Q => rB2 (bi2D b) [x, y] H1 Q) fun A σ r H x y v u Q R q q2 h => ?_
    obtain ⟨a, b, z, fr, r1, r2, e, n⟩ := op2v_post R q q2 h
    exact ⟨Av A σ r, v, u, a, b, z, fr, R.av, rfl, r1, r2, e, n⟩
  have pa : PA X [l, r] (tCons (tEv X.K cl W (evP φ a).1) (tCons (tEv X.K cl W (evP φ c).1) tNil)) := pa_cons ha.1 (pa_1 hc.1 hs2) (star_cons hs)
  have ns : noStar [r] = true := by simp [noStar, hs2]
  refine snd_mk (PE.imp' ?_ t)
  cases b with
  | max2 => exact pe_callB (bi2_max ok.calm) (ok.gl h1) (ok.blt _ (by simp [bltN, bi2N])) boot_max pa (he := star_cons hs) (hpl := star_any ns)
  | min2 => exact pe_callB (bi2_min ok.calm) (ok.gl h1) (ok.blt _ (by simp [bltN, bi2N])) boot_min pa (he := star_cons hs) (hpl := star_any ns)
theorem tyN_boot : ∀ t : Ty, bootBuiltins (tyN t) = some (.type (tyS t))
  | .int => PyProof.Rows.boot_int
  | .bool => PyProof.Rows.boot_bool
  | .tuple => PyProof.Rows.boot_tuple
  | .list => PyProof.Rows.boot_list
  | .str => PyProof.Rows.boot_str
  | .dict => PyProof.Rows.boot_dict
theorem tyN_mem : ∀ t : Ty, tyN t ∈ bltN := by intro t; cases t <;> simp [tyN, bltN]
theorem tyN_ne : ∀ t : Ty, tyN t ≠ "__name__" ∧ (tyN t == ("__debug__" : Str)) = false := by intro t; cases t <;> exact ⟨by decide, by decide⟩
theorem se_isi (ok : XOk G cl W φ s X) {a : E} {t : Ty} {l : Expr} {q q2 p : Pos} (h1 : isGl s sIsi = true) (h2 : isGl s (tyN t) = true) (hs : isStar l = false) (ha : Snd X cl W l (evP φ a)) :
    Snd X cl W (.Call (.Name sIsi q) [l, .Name (tyN t) q2] [] p) (evP φ (.isi a t)) := by
  unfold evP
  have hn : PE X (.Name (tyN t) q2) (tC (.ty (tyS t))) := pe_bltn (ok.gl h2) (ok.blt _ (tyN_mem t)) (tyN_boot t) rfl (tyN_ne t).1 (tyN_ne t).2
  refine snd_mk (PE.imp' (pe_callB (isi_ok t) (ok.gl h1) (ok.blt _ (by simp [bltN])) PyProof.Rows.boot_isinstance (pa_cons ha.1 (pa_1 hn rfl) (star_cons hs)) (he := star_cons hs)) ?_)
  refine post1 (t := fun x H1 Q => rIsiD t [x, .ty (tyS t)] H1 Q) fun A σ r H x v Q R q h => ?_
  obtain ⟨a, z, fr, r1, e, n⟩ := op1_post R q h
  cases e
  exact ⟨Av A σ r, v, a, rfl, r1, n _ _ (.here (.bl _))⟩

/-! ### methods -/
theorem attr_base {l : Expr} {nm : Str} {env : Env} (h : isCall0 l = false) : attributeBase l nm env (eval l env) = eval l env := by
  unfold attributeBase
  split
  · rename_i id _ pos
    cases h
  · rfl
theorem isDV_of {K : PySem.W.Frag} {A : Addr → Prop} {σ : Sg} {r : Rho} {H : Hp} {x : AV} {v : V} (R : Rl K A σ H r) (q : HV K A σ H r v x) (h : isDV x r = true) : ∃ a, v = .ref a ∧ IsD H a := by
  unfold isDV at h
  split at h
  · rename_i kvs e
    obtain ⟨p, ws, rfl, hp, _⟩ := rd_ok R q e
    exact ⟨p, rfl, .inl ⟨ws, .inl hp⟩⟩
  · cases h
theorem se_dget1 (ok : XOk G cl W φ s X) {a k : E} {l r : Expr} {apos cpos : Pos} (hl : apos.endLine = cpos.line) (hs : isStar r = false) (h0 : isCall0 l = false) (ha : Snd X cl W l (evP φ a)) (hk : Snd X cl W r (evP φ k)) :
    Snd X cl W (.Call (.Attribute l sGet apos) [r] [] cpos) (evP φ (.dget1 a k)) := by
  unfold evP
  have ns : noStar [r] = true := by simp [noStar, hs]
  have m : M1 X l "get" apos r cpos := ⟨attr_base h0, by rw [star_all ns]; rfl, by rw [hl]; exact beq_self_eq_true _, by rw [star_cons hs]; rfl⟩
  refine snd_mk (PE.imp' (pe_dget1 (room1 ok.units) ha.1 hk.1 m) ?_)
  rintro σ H Q ⟨A, r, R, h⟩
  refine ⟨A, r, R, (PostE.bind h).mono ?_⟩
  rintro v H1 ⟨A1, r1, x, R1, q1, c1, h1⟩
  split at h1
  · rename_i hd
    obtain ⟨a, e, d⟩ := isDV_of R1 q1 hd
    refine ⟨a, e, d, A1, r1, R1, (PostE.bind h1).mono ?_⟩
    rintro u H2 ⟨A2, r2, y, R2, q2, c2, h2⟩
    obtain ⟨b, c, z, fr, g1, g2, e3, n⟩ := op2v_post R2 (c2 _ _ q1) q2 h2
    cases b with
    | dict kvs =>
      have e3 : (if isKey c then some ((dfind c kvs).getD .none, false) else none) = some (z, fr) := e3
      by_cases hk : isKey c = true
      · rw [if_pos hk] at e3
        cases e3
        obtain ⟨p, o, e4, g, ro⟩ := dget_of hk g2 g1
        rw [e] at e4
        cases e4
        refine ⟨o, g, n _ _ (.here ?_)⟩
        cases e5 : dfind c kvs with
        | none =>
          rw [e5] at ro
          cases ro
          exact .non
        | some d =>
          rw [e5] at ro
          cases ro with
          | some rv => exact rv
      · rw [if_neg hk] at e3
        cases e3
    | _ => cases e3
  · exact h1.elim

theorem se_dget2 (ok : XOk G cl W φ s X) {a k z : E} {l r t : Expr} {apos cpos : Pos} (hl : apos.endLine = cpos.line) (hs : isStar r = false) (hs2 : isStar t = false) (h0 : isCall0 l = false) (ha : Snd X cl W l (evP φ a)) (hk : Snd X cl W r (evP φ k)) (hz : Snd X cl W t (evP φ z)) :
    Snd X cl W (.Call (.Attribute l sGet apos) [r, t] [] cpos) (evP φ (.dget2 a k z)) := by
  unfold evP
  have ns : noStar [r, t] = true := by simp [noStar, hs, hs2]
  have m : M2 X l "get" apos r t cpos := ⟨attr_base h0, by rw [star_all ns]; rfl, by rw [hl]; exact beq_self_eq_true _, by rw [star_cons hs, star_cons hs2]; rfl⟩
  refine snd_mk (PE.imp' (pe_dget2 (room1 ok.units) ha.1 hk.1 hz.1 m) ?_)
  rintro σ H Q ⟨A, r, R, h⟩
  refine ⟨A, r, R, (PostE.bind h).mono ?_⟩
  rintro v H1 ⟨A1, r1, x, R1, q1, c1, h1⟩
  split at h1
  · rename_i hd
    obtain ⟨a, e, d⟩ := isDV_of R1 q1 hd
    refine ⟨a, e, d, A1, r1, R1, (PostE.bind h1).mono ?_⟩
    rintro u H2 ⟨A2, r2, y, R2, q2, c2, h2⟩
    refine ⟨A2, r2, R2, (PostE.bind h2).mono ?_⟩
    rintro w H3 ⟨A3, r3, z, R3, q3, c3, h3⟩
    unfold dget2V at h3
    split at h3
    · rename_i kvs kk ww e1 e2 e3
      split at h3
      · rename_i hc
        rw [Bool.and_eq_true] at hc
        obtain ⟨p, o, e4, g, ro⟩ := dget_of hc.1 (rd_ok R3 (c3 _ _ q2) e2) (rd_ok R3 (c3 _ _ (c2 _ _ q1)) e1)
        rw [e] at e4
        cases e4
        have rw3 := rd_ok R3 q3 e3
        refine ⟨o, g, h3 _ _ (.ofNew R3 (.here ?_))⟩
        cases e5 : dfind kk kvs with
        | none =>
          rw [e5] at ro
          cases ro
          have hf := hc.2
          cases ww with
          | none => have e9 : w = .non := rw3; rw [e9]; exact .non
          | bool b => have e9 : w = .bl b := rw3; rw [e9]; exact .bl b
          | int b => have e9 : w = .int b := rw3; rw [e9]; exact .int b
          | str b => have e9 : w = .str b := rw3; rw [e9]; exact .str b
          | _ => cases hf
        | some d =>
          rw [e5] at ro
          cases ro with
          | some rv => exact rv
      · exact h3.elim
    · exact h3.elim
  · exact h1.elim

/-! ### calls -/
theorem se_call (ok : XOk G cl W φ s X) {f : Nat} {es : Es} {x : Str} {q p : Pos} {l : Expr} {ls : List Expr} (hf : (match G.fna[f]? with | some y => decide (y = x) | none => false) = true) (h1 : isGl s x = true) (h2 : nmOk x = true) (hc : chkEs G es s (l :: ls) = true)
    (ha : PA X (l :: ls) (tAv X.K cl W (evAs φ es))) : Snd X cl W (.Call (.Name x q) (l :: ls) [] p) (evP φ (.call f es)) := by
  unfold evP
  have e : G.fna[f]? = some x := by
    split at hf
    · rename_i y e
      rw [e, of_decide_eq_true hf]
    · cases hf
  obtain ⟨k, fa, fd, ps, m1, m2, m3, m4, m5⟩ := ok.fns f x e
  have ns := (chkEs_len hc).1
  simp only [noStar, Bool.and_eq_true, Bool.not_eq_true'] at ns
  refine snd_mk (PE.imp' (pe_callSD (E := WE W) m5 m4 (ok.gl h1) m1 m2 m3 (dvs := []) .nil (L2N.passAt ok.tk) ha (nmOk_1 h2).1 (star_cons ns.1) (star_any ns.2)) ?_)
  rintro σ H Q ⟨A, r, R, h⟩
  refine ⟨A, r, R, ?_⟩
  dsimp only at h
  generalize evAs φ es r = ra at h ⊢
  cases ra with
  | stuck => exact h
  | exc c fs r' => exact h
  | ok as r1 =>
    intro vs H1 s1 R1 q1
    rw [List.append_nil]
    exact call_post R1 q1 (PostE.back s1 (fun _ z => z) h)
end
end Ev
/-! Expressions keep what they compute: methods that change, what is walked, comprehensions. -/
namespace Ev
open PySem PySem.Spec PyProof.Rows L2

/-! ### a variable's object changes -/
section
variable {K : PySem.W.Frag} {A A' : Addr → Prop} {σ : Sg} {r : Rho} {H : Hp}
theorem Rep.upd {v : V} {x : D} {p : Addr} {ho : HO} (h : Rep A H v x) (hp : A p) : Rep A (L2.upd H p ho) v x := h.step (fun q u e n => by
  rw [upd_ne (fun z => n (by rw [z]; exact hp))]; exact e) fun q z => .inl z
theorem RepL.upd {v : List V} {x : List D} {p : Addr} {ho : HO} (h : RepL A H v x) (hp : A p) : RepL A (L2.upd H p ho) v x := h.step (fun q u e n => by
  rw [upd_ne (fun z => n (by rw [z]; exact hp))]; exact e) fun q z => .inl z
theorem RepK.upd {v : List (Key × V)} {x : List (D × D)} {p : Addr} {ho : HO} (h : RepK A H v x) (hp : A p) : RepK A (L2.upd H p ho) v x := h.step (fun q u e n => by
  rw [upd_ne (fun z => n (by rw [z]; exact hp))]; exact e) fun q z => .inl z
theorem RepT.upd {v : List (List Key × V)} {x : List (D × D)} {p : Addr} {ho : HO} (h : RepT A H v x) (hp : A p) : RepT A (L2.upd H p ho) v x := h.step (fun q u e n => by
  rw [upd_ne (fun z => n (by rw [z]; exact hp))]; exact e) fun q z => .inl z
theorem Rl.mut {i : Nat} {o o' : Ob} {m : Bool} {p : Addr} {ho : HO} (R : Rl K A σ H r) (e : r[i]? = some (some (.own o m))) (es : σ[i]? = some (some (.ref p))) (ob : ObRep (Av A σ r) (upd H p ho) p o') :
    Stp σ r (r.set i (some (.own o' m))) H (upd H p ho) ∧ Rl K A σ (upd H p ho) (r.set i (some (.own o' m))) := by
  have hi : i < r.length := (List.getElem?_eq_some_iff.mp e).1
  have hself : (r.set i (some (.own o' m)))[i]? = some (some (.own o' m)) := List.getElem?_set_self hi
  have hne : ∀ j, i ≠ j → (r.set i (some (SV.own o' m)))[j]? = r[j]? := fun j h => List.getElem?_set_ne h
  have own : Own σ r p := ⟨i, o, m, e, es⟩
  have slot : ∀ (j : Nat) (o2 : Ob) (m2 : Bool), (r.set i (some (.own o' m)))[j]? = some (some (.own o2 m2)) → (i = j ∧ o2 = o' ∧ m2 = m) ∨ (i ≠ j ∧ r[j]? = some (some (.own o2 m2))) := fun j o2 m2 h => by
    by_cases q : i = j
    · subst q; rw [hself] at h; cases h; exact .inl ⟨rfl, rfl, rfl⟩
    · rw [hne j q] at h; exact .inr ⟨q, h⟩
  have slot' : ∀ (j : Nat) (o2 : Ob) (m2 : Bool), (r.set i (some (.own o' m)))[j]? = some (some (.own o2 m2)) → ∃ o3, r[j]? = some (some (.own o3 m2)) := fun j o2 m2 h => by
    rcases slot j o2 m2 h with ⟨rfl, rfl, rfl⟩ | ⟨_, h⟩
    · exact ⟨o, e⟩
    · exact ⟨o2, h⟩
  have st : Stp σ r (r.set i (some (.own o' m))) H (upd H p ho) := ⟨fun q u h n => by
      rw [upd_ne (fun z => n (by rw [z]; exact own))]; exact h, fun q => by
      by_cases z : q = p
      · rw [z, ob.lvl]; exact lvl_le _
      · rw [upd_ne z]; exact Nat.le_refl _, slot'⟩
  have k1 : ∀ q u, H q = some u → ¬ Av A σ r q → upd H p ho q = some u := fun q u h n => st.keep q u h fun z => n (.inr z)
  have sub : ∀ q, Av A σ (r.set i (some (.own o' m))) q → Av A σ r q := fun q z => z.imp id (st.own q)
  refine ⟨st, ⟨by rw [List.length_set]; exact R.len, fun j y h => ?_, fun j o2 m2 h => ?_, fun j y h => ?_, fun j j' o1 m1 o2 m2 q h1 h2 h3 h4 => ?_, fun q z => Nat.le_trans (R.al q z) (st.live q)⟩⟩
  · have h' : r[j]? = some (some (.d y)) := by
      by_cases q : i = j
      · subst q; rw [hself] at h; cases h
      · rw [hne j q] at h; exact h
    obtain ⟨v, h1, h2⟩ := R.d j y h'
    exact ⟨v, h1, h2.step k1 fun q z => .inl (sub q z)⟩
  · rcases slot j o2 m2 h with ⟨rfl, rfl, rfl⟩ | ⟨nj, h⟩
    · obtain ⟨p', q1, q2, q3⟩ := R.own i _ _ e
      rw [es] at q1
      cases q1
      exact ⟨p, es, ob.mono sub, q3⟩
    · obtain ⟨p', q1, q2, q3⟩ := R.own j _ _ h
      have np : p' ≠ p := fun z => nj (by subst z; exact R.inj i j _ _ _ _ _ e h es q1)
      refine ⟨p', q1, q2.step (fun q u e1 z => ?_) (fun q z => .inl (sub q z)), q3⟩
      rcases z with z | z
      · subst z
        rw [upd_ne np]; exact e1
      · exact k1 q u e1 z
  · have h' : r[j]? = some (some (.ro y)) := by
      by_cases q : i = j
      · subst q; rw [hself] at h; cases h
      · rw [hne j q] at h; exact h
    obtain ⟨v, h1, h2⟩ := R.ro j y h'
    exact ⟨v, h1, h2.step k1 fun q z => .inl (sub q z)⟩
  · obtain ⟨_, z1⟩ := slot' _ _ _ h1
    obtain ⟨_, z2⟩ := slot' _ _ _ h2
    exact R.inj j j' _ _ _ _ q z1 z2 h3 h4
end

section
variable {G : Cg} {cl : ClsT} {W : WX} {φ : Phi} {s : Sc} {X : Cx}
/-! ### methods of a list that a variable owns -/
theorem ownL_of {r : Rho} {i : Nat} (h : ownL r i = true) : ∃ xs m, r[i]? = some (some (.own (.lst xs) m)) := by
  unfold ownL at h
  split at h
  · rename_i xs m e
    exact ⟨xs, m, e⟩
  · cases h
theorem own_keep {σ : Sg} {r r' : Rho} {H H' : Hp} {i : Nat} {o' : Ob} {m' : Bool} (s : Stp σ r r' H H') (h : r'[i]? = some (some (.own o' m'))) : ∃ o, r[i]? = some (some (.own o m')) := s.slot i o' m' h
/-- the change itself -/
theorem mm_append {A : Addr → Prop} {σ : Sg} {r : Rho} {H : Hp} {i : Nat} {ys : List D} {p : Addr} {us : List V} {Q : VK} (R : Rl X.K A σ H r) (es : σ[i]? = some (some (.ref p))) (ry : RepL (Av A σ r) H us ys)
    (h : PostE X.K cl W A σ r H Q (mmV .append i ys r)) : rAppend (.ref p) us H Q := by
  unfold mmV at h
  split at h
  · rename_i xs m e
    obtain ⟨p', q1, ⟨vs, q2, q3⟩, _⟩ := R.own i _ _ e
    rw [es] at q1
    cases q1
    split at h
    · rename_i zs y e2
      cases ry with
      | nil => cases e2
      | cons r1 rt =>
        cases rt with
        | cons _ _ => cases e2
        | nil =>
          rename_i v x
          have e2 : (if xs.length < line then some (xs ++ [x], PyData.none) else none) = some (zs, y) := e2
          split at e2
          · rename_i c
            cases e2
            have own : Av A σ r p := .inr ⟨i, _, _, e, es⟩
            obtain ⟨st, R2⟩ := R.mut (o' := .lst (xs ++ [x])) (ho := .lst (vs ++ [v])) e es ⟨vs ++ [v], upd_same, (q3.upd own).append (.cons (r1.upd own) .nil)⟩
            exact ⟨p, vs, v, rfl, rfl, q2, by rw [q3.length, ← line_eq]; exact c, h _ _ ⟨st, R2, .non⟩⟩
          · cases e2
    · exact h.elim
  · exact h.elim
theorem mm_extend {A : Addr → Prop} {σ : Sg} {r : Rho} {H : Hp} {i : Nat} {ys : List D} {p : Addr} {us : List V} {Q : VK} (R : Rl X.K A σ H r) (es : σ[i]? = some (some (.ref p))) (ry : RepL (Av A σ r) H us ys)
    (h : PostE X.K cl W A σ r H Q (mmV .extend i ys r)) : rExtend (.ref p) us H Q := by
  unfold mmV at h
  split at h
  · rename_i xs m e
    obtain ⟨p', q1, ⟨vs, q2, q3⟩, _⟩ := R.own i _ _ e
    rw [es] at q1
    cases q1
    split at h
    · rename_i zs y e2
      cases ry with
      | nil => cases e2
      | cons r1 rt =>
        cases rt with
        | cons _ _ => exact absurd e2 (by simp [mmD])
        | nil =>
          rename_i v x
          cases x <;> try (cases e2; done)
          rename_i ws
          have e2 : (if xs.length + ws.length ≤ line then some (xs ++ ws, PyData.none) else none) = some (zs, y) := e2
          split at e2
          · rename_i c
            cases e2
            obtain ⟨b, bs, eb, hb, rb⟩ := r1.b
            have own : Av A σ r p := .inr ⟨i, _, _, e, es⟩
            obtain ⟨st, R2⟩ := R.mut (o' := .lst (xs ++ ws)) (ho := .lst (vs ++ bs)) e es ⟨vs ++ bs, upd_same, (q3.upd own).append (rb.upd own)⟩
            exact ⟨p, b, vs, bs, rfl, by rw [eb], q2, hb, by rw [q3.length, rb.length, ← line_eq]; exact c, h _ _ ⟨st, R2, .non⟩⟩
          · cases e2
    · exact h.elim
  · exact h.elim
theorem mm_pop1 {A : Addr → Prop} {σ : Sg} {r : Rho} {H : Hp} {i : Nat} {ys : List D} {p : Addr} {us : List V} {Q : VK} (R : Rl X.K A σ H r) (es : σ[i]? = some (some (.ref p))) (ry : RepL (Av A σ r) H us ys)
    (h : PostE X.K cl W A σ r H Q (mmV .pop1 i ys r)) : rPopAt (.ref p) us H Q := by
  unfold mmV at h
  split at h
  · rename_i xs m e
    obtain ⟨p', q1, ⟨vs, q2, q3⟩, _⟩ := R.own i _ _ e
    rw [es] at q1
    cases q1
    split at h
    · rename_i zs y e2
      cases ry with
      | nil => cases e2
      | cons r1 rt =>
        cases rt with
        | cons _ _ => exact absurd e2 (by simp [mmD])
        | nil =>
          rename_i v x
          cases x <;> try (cases e2; done)
          rename_i k
          have e2 : (if decide (k.natAbs < 2 ^ 63) then match seqIndex? k xs.length with
            | some j => (xs[j]?).map fun y => (xs.eraseIdx j, y)
            | none => none
            else none) = some (zs, y) := e2
          split at e2
          · rename_i c
            have c := of_decide_eq_true c
            split at e2
            · rename_i j ej
              cases e3 : xs[j]? with
              | none => rw [e3] at e2; cases e2
              | some z =>
                rw [e3] at e2
                cases e2
                obtain ⟨w, g1, g2⟩ := q3.get e3
                cases r1
                have own : Av A σ r p := .inr ⟨i, _, _, e, es⟩
                obtain ⟨st, R2⟩ := R.mut (o' := .lst (xs.eraseIdx j)) (ho := .lst (vs.eraseIdx j)) e es ⟨_, upd_same, (q3.upd own).eraseIdx j⟩
                refine ⟨p, vs, k, j, w, rfl, rfl, q2, by omega, by omega, by rw [q3.length]; exact ej, g1, h _ _ ⟨st, R2, ?_⟩⟩
                exact (g2.upd own).mono fun q z => z.imp id (st.own q)
            · cases e2
          · cases e2
    · exact h.elim
  · exact h.elim
theorem mm_pop0 {A : Addr → Prop} {σ : Sg} {r : Rho} {H : Hp} {i : Nat} {ys : List D} {p : Addr} {us : List V} {Q : VK} (R : Rl X.K A σ H r) (es : σ[i]? = some (some (.ref p))) (ry : RepL (Av A σ r) H us ys)
    (h : PostE X.K cl W A σ r H Q (mmV .pop0 i ys r)) : rPop (.ref p) us H Q := by
  unfold mmV at h
  split at h
  · rename_i xs m e
    obtain ⟨p', q1, ⟨vs, q2, q3⟩, _⟩ := R.own i _ _ e
    rw [es] at q1
    cases q1
    split at h
    · rename_i zs y e2
      cases ry with
      | cons r1 rt => cases e2
      | nil =>
        have e2 : (match xs[xs.length - 1]? with
          | some y => some (xs.dropLast, y)
          | none => none) = some (zs, y) := e2
        split at e2
        · rename_i z e3
          cases e2
          obtain ⟨w, g1, g2⟩ := q3.get e3
          have own : Av A σ r p := .inr ⟨i, _, _, e, es⟩
          obtain ⟨st, R2⟩ := R.mut (o' := .lst xs.dropLast) (ho := .lst vs.dropLast) e es ⟨_, upd_same, (q3.upd own).dropLast⟩
          refine ⟨p, vs, w, rfl, rfl, q2, by rw [q3.length]; exact g1, h _ _ ⟨st, R2, ?_⟩⟩
          exact (g2.upd own).mono fun q z => z.imp id (st.own q)
        · cases e2
    · exact h.elim
  · exact h.elim
theorem te_mm {m : Mm} {i : Nat} {es : Es} {rr : V → List V → Hp → VK → Prop}
    (hop : ∀ {A : Addr → Prop} {σ : Sg} {r : Rho} {H : Hp} {i : Nat} {ys : List D} {p : Addr} {us : List V} {Q : VK}, Rl X.K A σ H r → σ[i]? = some (some (.ref p)) → RepL (Av A σ r) H us ys → PostE X.K cl W A σ r H Q (mmV m i ys r) → rr (.ref p) us H Q) :
    ∀ σ H Q, tEv X.K cl W (fun r => if ownL r i then (evDs φ es r).bind fun ys r1 => mmV m i ys r1 else .stuck) σ H Q → tBM X.K "list" rr (tVar i) (tLv X.K cl W (evDs φ es)) σ H Q := by
  rintro σ H Q ⟨A, r, R, h⟩
  dsimp only at h
  split at h
  · rename_i ho
    obtain ⟨xs, m, e⟩ := ownL_of ho
    obtain ⟨p, q1, ⟨vs, q2, q3⟩, _⟩ := R.own i _ _ e
    refine ⟨.ref p, q1, .inl ⟨rfl, vs, .of q2⟩, A, r, R, PostL.of h fun ys r1 us H1 e1 st R1 ry hq => ?_⟩
    exact hop R1 q1 ry hq
  · exact h.elim
theorem few_ok {env : Env} {pos : Pos} {ls : List Expr} (h1 : noStar ls = true) (h2 : few ls = true) : ((backTo pos (starEach ls env)).all (fun x => !x.1) && (backToKw pos (keywordEach [] env)).all (fun x => x.1.isSome)
      && decide (ls.length + ([] : List Keyword).length + (if ([] : List Keyword).isEmpty then 0 else 1) < 30)) = true := by
  have h2 : ls.length < 29 := of_decide_eq_true h2
  rw [star_all h1]
  have e : (backToKw pos (keywordEach [] env)).all (fun x => x.1.isSome) = true := rfl
  rw [e]
  simp
  omega
theorem pos_line {a b : Pos} (h : a.endLine = b.line) : (a.endLine == b.line) = true := by rw [h]; exact beq_self_eq_true _
theorem se_mm (ok : XOk G cl W φ s X) {m : Mm} {i : Nat} {es : Es} {x : Str} {p apos cpos : Pos} {ls : List Expr} (h1 : isVis s x = true) (h2 : nmOk x = true) (h3 : atN G i x = true) (h4 : mmY m = true) (hl : apos.endLine = cpos.line) (hf : few ls = true)
    (hc : chkEs G es s ls = true) (ha : PA X ls (tLv X.K cl W (evDs φ es))) : Snd X cl W (.Call (.Attribute (.Name x p) (mmN m) apos) ls [] cpos) (evP φ (.mm m i es)) := by
  unfold evP
  have hv : PE X (.Name x p) (tVar i) := pe_var (ok.at_ h3) (ok.vis h1) (nmOk_1 h2).1 (nmOk_1 h2).2
  have hb : ∀ nm, attributeBase (.Name x p) nm X.env (eval (.Name x p) X.env) = eval (.Name x p) X.env := fun nm => attr_base rfl
  have ns := (chkEs_len hc).1
  cases ls with
  | nil =>
    have e0 : es = .nil := by
      cases es with
      | nil => rfl
      | cons e es => cases hc
    subst e0
    cases m with
    | pop0 =>
      refine snd_mk (PE.imp' (pe_bm0 F.plainAttrs_list F.slot_list_pop F.type_list_pop mt_pop hv (hb _) (pos_line hl)) ?_)
      rintro σ H Q h
      obtain ⟨v, q1, q2, A, r, R, h⟩ := te_mm (rr := rPop) (fun R a b c => mm_pop0 R a b c) σ H Q h
      exact ⟨v, q1, q2, h [] H .refl R .nil⟩
    | pop1 =>
      refine snd_mk (PE.imp' (t := fun _ _ _ => False) ⟨fun _ _ _ _ _ _ h => h.elim⟩ ?_)
      rintro σ H Q h
      obtain ⟨v, q1, q2, A, r, R, h⟩ := te_mm (rr := rPopAt) (fun R a b c => mm_pop1 R a b c) σ H Q h
      obtain ⟨_, _, _, _, _, _, e, _⟩ := h [] H .refl R .nil
      cases e
    | append =>
      refine snd_mk (PE.imp' (t := fun _ _ _ => False) ⟨fun _ _ _ _ _ _ h => h.elim⟩ ?_)
      rintro σ H Q h
      obtain ⟨v, q1, q2, A, r, R, h⟩ := te_mm (rr := rAppend) (fun R a b c => mm_append R a b c) σ H Q h
      obtain ⟨_, _, _, _, e, _⟩ := h [] H .refl R .nil
      cases e
    | extend =>
      refine snd_mk (PE.imp' (t := fun _ _ _ => False) ⟨fun _ _ _ _ _ _ h => h.elim⟩ ?_)
      rintro σ H Q h
      obtain ⟨v, q1, q2, A, r, R, h⟩ := te_mm (rr := rExtend) (fun R a b c => mm_extend R a b c) σ H Q h
      obtain ⟨_, _, _, _, _, e, _⟩ := h [] H .refl R .nil
      cases e
    | remove => cases h4
  | cons l ls =>
    have ns' := ns
    simp only [noStar, Bool.and_eq_true, Bool.not_eq_true'] at ns'
    cases m with
    | append => exact snd_mk (PE.imp' (pe_bm F.plainAttrs_list F.slot_list_append F.type_list_append mt_append hv ha (hb _) (few_ok ns hf) (pos_line hl) (star_cons ns'.1) (star_any ns'.2)) (te_mm (rr := rAppend) fun R a b c => mm_append R a b c))
    | extend => exact snd_mk (PE.imp' (pe_bm F.plainAttrs_list F.slot_list_extend F.type_list_extend mt_extend hv ha (hb _) (few_ok ns hf) (pos_line hl) (star_cons ns'.1) (star_any ns'.2)) (te_mm (rr := rExtend) fun R a b c => mm_extend R a b c))
    | pop0 => exact snd_mk (PE.imp' (pe_bm F.plainAttrs_list F.slot_list_pop F.type_list_pop mt_pop hv ha (hb _) (few_ok ns hf) (pos_line hl) (star_cons ns'.1) (star_any ns'.2)) (te_mm (rr := rPop) fun R a b c => mm_pop0 R a b c))
    | pop1 => exact snd_mk (PE.imp' (pe_bm F.plainAttrs_list F.slot_list_pop F.type_list_pop mt_popAt hv ha (hb _) (few_ok ns hf) (pos_line hl) (star_cons ns'.1) (star_any ns'.2)) (te_mm (rr := rPopAt) fun R a b c => mm_pop1 R a b c))
    | remove => cases h4
end
end Ev
/-! sorted(d), d a dict with pairs of ints as keys. -/
namespace Ev
open PySem PySem.Spec PyProof.Rows L2
section
variable {X : Cx}
theorem call_sorted_dT (hc : X.calm = true) : CallR X (.builtin "sorted") (fun xs H Q => ∃ d kvs, xs = [V.ref d] ∧ Rd H d (.dT kvs) ∧ (∀ bs, IsKeys H kvs bs → (∀ b ∈ bs, H b = some (.tup [.int (pairOf H (.ref b)).1, .int (pairOf H (.ref b)).2])) ∧
    ∀ p ys, H p = none → SrtO.Srtd (ltP (pairOf H)) ys → SrtO.Stb (ltP (pairOf H)) ys (bs.map V.ref) → Q (.ref p) (upd H p (.lst ys)))) := by
  intro pins s σ H xs us Q I r h
  obtain ⟨d, kvs, rfl, hd, q⟩ := h
  obtain ⟨u, rfl, rx⟩ := r.one
  cases rx
  obtain ⟨z, hs, ks, pr, o, es, ep, ho, hx, hdt, he, hn⟩ := (show ObjOk X.prog X.w H s.heap d (.dT kvs) from hd.ok I.hok)
  have l1 : es.size = ks.length := size_of_entries he
  have l2 : kvs.length = ks.length := Paired.length pr
  refine Calls.call_function_entry PyProof.Rows.kind_sorted PyProof.Rows.plain_sorted PyProof.Rows.entry_sorted (PyProof.Rows.args_sorted1 _) ?_
  unfold Builtin.«sorted»
  refine wpAny_bind (m := checkCount "sorted" 1 1 _) (wpAny_pure ?_)
  refine wpAny_bind (PySem.W.kdu_collect (A := X.A.in1) (kdl_raw hs hx hdt) (I.ok.hd hc) ho (by omega) fun h' tk acc' kp it => ?_)
  have ea : acc'.toList = ks.map fun x => Value.ref x.2.1 := by
    have hl : acc'.toList.length = ks.length := by rw [Array.length_toList, it.1]; exact l1
    apply List.ext_getElem?
    intro j
    rw [List.getElem?_map]
    cases hj : acc'.toList[j]? with
    | none =>
      have h1 := List.getElem?_eq_none_iff.mp hj
      rw [List.getElem?_eq_none (by omega)]
      all_goals rfl
    | some v =>
      obtain ⟨en, hen, hv⟩ := it.2 j v (by rw [← Array.getElem?_toList]; exact hj)
      have qe := entry_at he j
      rw [hen] at qe
      cases hb : ks[j]? with
      | none =>
        rw [hb] at qe
        exact nomatch (show some en = none from qe)
      | some b =>
        rw [hb] at qe
        have e2 : en = entryOfKey (tupleKind (mixKind X.prog X.w)) b := Option.some.inj qe
        rw [hv, e2]
        all_goals rfl
  obtain ⟨q1, q2⟩ := q _ (isKeys_of pr)
  have I1 : Inv X pins σ H { s with heap := h', toks := tk } := I.kept kp
  have hlen : acc'.toList.length ≤ sizeLine := by rw [ea, List.length_map, ← l2]; exact z
  refine wpAny_bind (wpAny_newList ?_ hlen)
  have hoL : (h'.push (seqObj "list" acc'.toList.toArray 0)).get? h'.objs.size = some (seqObj "list" acc'.toList.toArray 0) := Heap.get?_push_size _ rfl
  show wpAny _ _ _ _ _ { s with heap := h'.push (seqObj "list" acc'.toList.toArray 0), toks := tk }
  have hpair : ∀ v ∈ acc'.toList, Srt.IsPair (h'.push (seqObj "list" acc'.toList.toArray 0)) v (pairOf H (backV v)).1 (pairOf H (backV v)).2 := fun v hv => by
    rw [ea] at hv
    obtain ⟨x, hx, rfl⟩ := List.mem_map.mp hv
    have ht := q1 x.2.1 (List.mem_map.mpr ⟨x, hx, rfl⟩)
    obtain ⟨_, its2, r2, o, ho, hc, n, hd⟩ := I1.hok _ _ ht
    obtain ⟨u1, u2, rfl, ri, rj⟩ := vals2 r2
    obtain ⟨t1, rfl⟩ := ri
    obtain ⟨t2, rfl⟩ := rj
    exact ⟨_, o, t1, t2, n, rfl, Heap.get?_push_of_some _ ho, hc, hd⟩
  refine wpAny_bind (wpAny_holding (wpAny_call_entry PyProof.Rows.slot_list_sort ⟨_, hoL, rfl⟩ PyProof.Rows.entry_list_sort
    (SrtO.list_sort_ord (s := { s with heap := h'.push (seqObj "list" acc'.toList.toArray 0), toks := tk }) (SrtO.swo_lex fun v => pairOf H (backV v)) hoL hlen
      (fun h2 => SrtO.pairs_sortableO (by omega) hpair fun o e => by
        have e' : some o = some (seqObj "list" acc'.toList.toArray 0) := e.symm.trans hoL
        cases e'
        intro c
        exact absurd (Value.type.inj c) (by decide)) fun out h1 h2 => ⟨_, rfl, ?_⟩)
    (PyProof.Rows.args_list_sort _)))
  obtain ⟨e', he'⟩ := PyProof.Rows.sortedHeap_at (vs := acc'.toList) (out := out.toArray) hoL
  have eb : acc'.toList.map backV = (ks.map fun x => x.2.1).map V.ref := by rw [ea]; simp [List.map_map, Function.comp_def, backV]
  have hb : SrtO.Stb (ltP (pairOf H)) (out.map backV) ((ks.map fun x => x.2.1).map V.ref) := by
    rw [← eb]
    exact SrtO.Stb.map (ltP_swo (pairOf H)) backV h2
  have h3 : ∀ u ∈ out, ∃ a, u = Value.ref a := fun u hu => by
    have hu := h2.perm.mem_iff.mp hu
    rw [ea] at hu
    obtain ⟨x, _, rfl⟩ := List.mem_map.mp hu
    exact ⟨_, rfl⟩
  refine wpAny_pure ⟨_, rfl, .ref h'.objs.size, upd H h'.objs.size (.lst (out.map backV)), I1.laid (t' := tk) (fun b u e => ?_) (Nat.le_refl _)
    (show ObjOk X.prog X.w _ _ _ (.lst (out.map backV)) from ⟨?_, out, e', vals_back h3, he'⟩), rfl, q2 _ _ (I1.hok.fresh (Nat.le_refl _)) (SrtO.srtd_map h1) hb⟩
  · have hb : b < h'.objs.size := Heap.lt_size e
    rw [PyProof.Rows.sortedHeap_old (Nat.ne_of_lt hb) (by rw [size_push']; exact Nat.lt_succ_of_lt hb)]
    exact Heap.get?_push_of_some _ e
  · rw [hb.len, List.length_map, List.length_map, ← l2]
    exact z
end
end Ev
/-! A variable's dict whose keys are tuples. -/
namespace Ev
open PySem PySem.Spec PyProof.Rows L2
section
variable {A : Addr → Prop} {H : Hp}
theorem rep_key (k : Key) : Rep A H (kV k) (keyDt k) := by
  cases k with
  | inl i => exact .int i
  | inr x => exact .str x
theorem rep_keys : ∀ ks : List Key, RepL A H (ks.map kV) (ks.map keyDt)
  | [] => .nil
  | k :: r => .cons (rep_key k) (rep_keys r)
theorem sameL_keys : ∀ (a k : List Key), sameL (a.map keyDt) (k.map keyDt) = decide (a = k)
  | [], [] => rfl
  | [], _ :: _ => rfl
  | _ :: _, [] => rfl
  | a :: as, k :: ks => by
    show (sameD (keyDt a) (keyDt k) && sameL (as.map keyDt) (ks.map keyDt)) = _
    rw [sameD_key, sameL_keys as ks]
    by_cases e : a = k <;> by_cases e2 : as = ks <;> simp [e, e2]
theorem sameT_key (a k : List Key) : sameD (.tuple (a.map keyDt)) (.tuple (k.map keyDt)) = decide (a = k) := sameL_keys a k
theorem keys_of : ∀ {xs : List PyData} {vs : List V}, xs.all isKey = true → RepL A H vs xs → ∃ ks : List Key, xs = ks.map keyDt ∧ vs = ks.map kV
  | _, _, _, .nil => ⟨[], rfl, rfl⟩
  | _, _, h, .cons rv t => by
    rw [List.all_cons, Bool.and_eq_true] at h
    obtain ⟨k, rfl, rfl⟩ := key_of_isKey h.1 rv.b
    obtain ⟨ks, rfl, rfl⟩ := keys_of h.2 t
    exact ⟨k :: ks, rfl, rfl⟩
theorem keyT_of {x : V} {d : PyData} (h : keyT d = true) (r : Rep A H x d) : ∃ (b : Addr) (ks : List Key), d = .tuple (ks.map keyDt) ∧ x = .ref b ∧ H b = some (.tup (ks.map kV)) := by
  cases r with
  | tup na e rl =>
    obtain ⟨ks, rfl, rfl⟩ := keys_of h rl
    exact ⟨_, ks, rfl, rfl, e⟩
  | _ => cases h
theorem RepT.find {A : Addr → Prop} {H : Hp} (k : List Key) : ∀ {ws : List (List Key × V)} {kvs : List (D × D)}, RepT A H ws kvs → RepO A H (valV ws k) (dfind (.tuple (k.map keyDt)) kvs)
  | _, _, .nil => .none
  | _, _, .cons (k := a) (v := v) (ws := ws) (x := x) (kvs := kvs) h t => by
    show RepO A H (valV ((a, v) :: ws) k) (if sameD (.tuple (a.map keyDt)) (.tuple (k.map keyDt)) then some x else dfind (.tuple (k.map keyDt)) kvs)
    rw [sameT_key]
    by_cases e : a = k
    · rw [valV_pos (p := (a, v)) e, if_pos (by simp [e])]
      exact .some h
    · rw [valV_neg (p := (a, v)) e, if_neg (by simp [e])]
      exact RepT.find k t
theorem keys_rep (al : Allo A H) : ∀ {ws : List (List Key × V)} {kvs : List (D × D)} {bs : List Addr}, RepT A H ws kvs → IsKeys H ws bs → RepL A H (bs.map V.ref) (kvs.map (·.1))
  | _, _, _, .nil, .nil => .nil
  | _, _, _, .cons h t, .cons h2 t2 => .cons (.tup (al.nt h2) h2 (rep_keys _)) (keys_rep al t t2)
end
section
variable {G : Cg} {cl : ClsT} {φ : Phi} {W : WX} {s : Sc} {X : Cx}
theorem td_own {K : PySem.W.Frag} {i : Nat} {f : Rho → R AV} {σ : Sg} {H : Hp} {Q : VK} (h : tEv K cl W (fun r => if ownT r i then f r else .stuck) σ H Q) : (∃ p, σ[i]? = some (some (.ref p))) ∧ tEv K cl W f σ H Q := by
  obtain ⟨A, r, R, h⟩ := h
  dsimp only at h
  split at h
  · rename_i c
    refine ⟨?_, A, r, R, h⟩
    unfold ownT at c
    split at c
    · rename_i kvs m e
      obtain ⟨p, e1, _⟩ := R.own i _ _ e
      exact ⟨p, e1⟩
    · cases c
  · exact h.elim
/-- one argument, then the dict -/
theorem td_one {K : PySem.W.Frag} {A : Addr → Prop} {σ : Sg} {r : Rho} {H : Hp} {Q : VK} {o : Td} {i : Nat} {e : E} (h : PostE K cl W A σ r H Q ((evDs φ (.cons e .nil) r).bind fun ys r1 => tdV o i ys r1)) :
    PostD K cl W A σ r H (fun v H1 => ∃ r1 a, Rl K A σ H1 r1 ∧ Rep (Av A σ r1) H1 v a ∧ PostE K cl W A σ r1 H1 Q (tdV o i [a] r1)) (dof (evP φ e).1 r) := by
  have e1 : (evDs φ (.cons e .nil) r).bind (fun ys r1 => tdV o i ys r1) = (dof (evP φ e).1 r).bind fun x r1 => tdV o i [x] r1 := by
    show ((dof (evP φ e).1 r).bind fun x r1 => (Ev.R.ok [] r1).bind fun xs r2 => .ok (x :: xs) r2).bind _ = _
    cases dof (evP φ e).1 r <;> rfl
  rw [e1] at h
  have := PostD.bind h
  revert this
  cases dof (evP φ e).1 r with
  | stuck => exact id
  | exc c fs r' => exact id
  | ok x r1 =>
    intro t v H1 st R1 q
    obtain ⟨r2, a, h1, h2, _, h4⟩ := t v H1 st R1 q
    exact ⟨r2, a, h1, h2, h4⟩
theorem se_tdL (ok : XOk G cl W φ s X) {i : Nat} {x : Str} {q q2 p : Pos} (h1 : isGl s (biN .list) = true) (h2 : isVis s x = true) (h3 : nmOk x = true) (h4 : atN G i x = true) :
    Snd X cl W (.Call (.Name (biN .list) q) [.Name x q2] [] p) (evP φ (.td .list i .nil)) := by
  unfold evP
  have hv : PE X (.Name x q2) (tVar i) := pe_var (ok.at_ h4) (ok.vis h2) (nmOk_1 h3).1 (nmOk_1 h3).2
  refine snd_mk (PE.imp' (pe_callTy (call_list_dT ok.calm) (ok.gl h1) (ok.blt _ (by simp [bltN, biN])) PyProof.Rows.boot_list (pa_1 hv rfl) (he := star_cons rfl)) ?_)
  intro σ H Q h0
  obtain ⟨A, r, R, h⟩ := (td_own h0).2
  have h : PostE X.K cl W A σ r H Q (tdV .list i [] r) := h
  unfold tdV at h
  split at h
  · rename_i kvs m e
    obtain ⟨p, e1, ⟨ws, e2, e3⟩, _⟩ := R.own i _ _ e
    have h : PostE X.K cl W A σ r H Q (.ok (.d (.list (kvs.map (·.1))) true) r) := h
    refine ⟨.ref p, e1, p, ws, rfl, .of e2, fun p' bs hp' ik => ?_⟩
    exact h _ _ (.ofNew R (NewV.lst R.av hp' (keys_rep R.av e3 ik)))
  · exact h.elim
theorem td_at {K : PySem.W.Frag} {A : Addr → Prop} {σ : Sg} {r : Rho} {H : Hp} {Q : VK} {o : Td} {i : Nat} {a : D} {v : V} (R : Rl K A σ H r) (rv : Rep (Av A σ r) H v a) (h : PostE K cl W A σ r H Q (tdV o i [a] r)) (hk : ∀ kvs z, tdD o kvs [a] = some z → keyT a = true) :
    ∃ (p : Addr) (oo : Option V) (kvs : List (D × D)) (z : D) (fr : Bool), σ[i]? = some (some (.ref p)) ∧ DGet H p v oo ∧ RepO (Av A σ r) H oo (dfind a kvs) ∧ tdD o kvs [a] = some (z, fr) ∧ ∀ w H', NewV (Av A σ r) H H' w z fr → Q w H' := by
  unfold tdV at h
  split at h
  · rename_i kvs m e
    obtain ⟨p, e1, ⟨ws, e2, e3⟩, _⟩ := R.own i _ _ e
    split at h
    · rename_i z fr ez
      obtain ⟨b, ks, rfl, rfl, hb⟩ := keyT_of (hk _ _ ez) rv
      exact ⟨p, _, kvs, z, fr, e1, .t e2 hb, e3.find ks, ez, fun w H' n => h _ _ (.ofNew R n)⟩
    · exact h.elim
  · exact h.elim
theorem td_key {o : Td} {kvs : List (D × D)} {a : D} {z : D × Bool} (h : tdD o kvs [a] = some z) : keyT a = true := by
  cases o <;> first | (have h : (if keyT a then _ else none) = some z := h; by_cases e : keyT a = true; exact e; rw [if_neg e] at h; cases h) | cases h
theorem PostD.mono' {K : PySem.W.Frag} {A : Addr → Prop} {σ : Sg} {r : Rho} {H : Hp} {Q Q' : V → Hp → Prop} {x : R PyData} (h : PostD K cl W A σ r H Q x) (k : ∀ v H', Q v H' → Q' v H') : PostD K cl W A σ r H Q' x := by
  cases x with
  | stuck => exact h
  | exc c fs r' => exact h
  | ok a r1 => exact fun v H1 st R1 q => k _ _ (h v H1 st R1 q)
theorem te_tdIn {K : PySem.W.Frag} {i : Nat} {e : E} : ∀ σ H Q, tEv K cl W (fun r => (evDs φ (.cons e .nil) r).bind fun ys r1 => tdV .isin i ys r1) σ H Q → tDIn (tEv K cl W (evP φ e).1) (tVar i) σ H fun v H1 => (∃ b, v = .bl b) ∧ Q v H1 := by
  rintro σ H Q ⟨A, r, R, h⟩
  refine te_dof _ _ _ ⟨A, r, R, PostD.mono' (td_one h) ?_⟩
  rintro v H1 ⟨r1, a, R1, rv, h1⟩
  obtain ⟨pp, oo, kvs, z, fr, e1, g, ro, ez, k⟩ := td_at R1 rv h1 fun _ _ => td_key
  refine ⟨.ref pp, e1, pp, oo, rfl, g, ⟨_, rfl⟩, ?_⟩
  have hk := td_key ez
  have ez : (if keyT a then some (PyData.bool (dfind a kvs).isSome, false) else none) = some (z, fr) := ez
  rw [if_pos hk] at ez
  cases ez
  rw [ro.isSome]
  exact k _ _ (.here (.bl _))
theorem te_tdNotIn {K : PySem.W.Frag} {i : Nat} {e : E} : ∀ σ H Q, tEv K cl W (fun r => (evDs φ (.cons e .nil) r).bind fun ys r1 => tdV .notin i ys r1) σ H Q → tDNotIn (tEv K cl W (evP φ e).1) (tVar i) σ H fun v H1 => (∃ b, v = .bl b) ∧ Q v H1 := by
  rintro σ H Q ⟨A, r, R, h⟩
  refine te_dof _ _ _ ⟨A, r, R, PostD.mono' (td_one h) ?_⟩
  rintro v H1 ⟨r1, a, R1, rv, h1⟩
  obtain ⟨pp, oo, kvs, z, fr, e1, g, ro, ez, k⟩ := td_at R1 rv h1 fun _ _ => td_key
  refine ⟨.ref pp, e1, pp, oo, rfl, g, ⟨_, rfl⟩, ?_⟩
  have hk := td_key ez
  have ez : (if keyT a then some (PyData.bool (!(dfind a kvs).isSome), false) else none) = some (z, fr) := ez
  rw [if_pos hk] at ez
  cases ez
  rw [ro.isSome]
  exact k _ _ (.here (.bl _))
theorem te_tdGet {K : PySem.W.Frag} {i : Nat} {e : E} : ∀ σ H Q, tEv K cl W (fun r => (evDs φ (.cons e .nil) r).bind fun ys r1 => tdV .get i ys r1) σ H Q → tEv K cl W (evP φ e).1 σ H fun v H1 => ∃ p u, σ[i]? = some (some (.ref p)) ∧ DGet H1 p v (some u) ∧ Q u H1 := by
  rintro σ H Q ⟨A, r, R, h⟩
  refine te_dof _ _ _ ⟨A, r, R, PostD.mono' (td_one h) ?_⟩
  rintro v H1 ⟨r1, a, R1, rv, h1⟩
  obtain ⟨pp, oo, kvs, z, fr, e1, g, ro, ez, k⟩ := td_at R1 rv h1 fun _ _ => td_key
  have hk := td_key ez
  have ez : (if keyT a then (dfind a kvs).map fun v => (v, false) else none) = some (z, fr) := ez
  rw [if_pos hk] at ez
  cases e2 : dfind a kvs with
  | none => rw [e2] at ez; cases ez
  | some d =>
    rw [e2] at ez ro
    cases ez
    cases ro with
    | some rv => exact ⟨pp, _, e1, g, k _ _ (.here rv)⟩
theorem no_marks {x : Str} {p : Pos} {op : CmpOp} : behindInMarks op (.Name x p) = false := by
  cases op <;> rfl
theorem tDIn_mono {K : PySem.W.Frag} {ev : Rho → R AV} {i : Nat} {σ : Sg} {H : Hp} {Q Q' : VK} (h : tDIn (tEv K cl W ev) (tVar i) σ H Q) (k : ∀ b H', Q (.bl b) H' → Q' (.bl b) H') : tDIn (tEv K cl W ev) (tVar i) σ H Q' :=
  tEv_mono h fun y H1 ⟨v, e, a, o, ex, g, q⟩ => ⟨v, e, a, o, ex, g, k _ _ q⟩
theorem tDNotIn_mono {K : PySem.W.Frag} {ev : Rho → R AV} {i : Nat} {σ : Sg} {H : Hp} {Q Q' : VK} (h : tDNotIn (tEv K cl W ev) (tVar i) σ H Q) (k : ∀ b H', Q (.bl b) H' → Q' (.bl b) H') : tDNotIn (tEv K cl W ev) (tVar i) σ H Q' :=
  tEv_mono h fun y H1 ⟨v, e, a, o, ex, g, q⟩ => ⟨v, e, a, o, ex, g, k _ _ q⟩
theorem se_tdIn (ok : XOk G cl W φ s X) {i : Nat} {e : E} {x : Str} {l : Expr} {q2 p : Pos} (h2 : isVis s x = true) (h3 : nmOk x = true) (h4 : atN G i x = true) (he : Snd X cl W l (evP φ e)) :
    Snd X cl W (.Compare l [.In] [.Name x q2] p) (evP φ (.td .isin i (.cons e .nil))) := by
  have hv : PE X (.Name x q2) (tVar i) := pe_var (ok.at_ h4) (ok.vis h2) (nmOk_1 h3).1 (nmOk_1 h3).2
  have hc := pc_din (room1 ok.units) he.1 hv
  refine ⟨PE.imp' (pe_cmp hc no_marks) fun σ H Q h => tDIn_mono (te_tdIn σ H Q (td_own h).2) fun b H' q => q.2, PT.imp' (pt_cmp hc no_marks) fun σ H Q h => ?_⟩
  refine tDIn_mono (te_tdIn σ H _ (td_own (post_truth _ _ _ h)).2) fun b H' q => ?_
  obtain ⟨_, k, h4, h5⟩ := q
  rw [tru_bl h4] at h5
  exact ⟨b, rfl, h5⟩
theorem se_tdNotIn (ok : XOk G cl W φ s X) {i : Nat} {e : E} {x : Str} {l : Expr} {q2 p : Pos} (h2 : isVis s x = true) (h3 : nmOk x = true) (h4 : atN G i x = true) (he : Snd X cl W l (evP φ e)) :
    Snd X cl W (.Compare l [.NotIn] [.Name x q2] p) (evP φ (.td .notin i (.cons e .nil))) := by
  have hv : PE X (.Name x q2) (tVar i) := pe_var (ok.at_ h4) (ok.vis h2) (nmOk_1 h3).1 (nmOk_1 h3).2
  have hc := pc_dnotin (room1 ok.units) he.1 hv
  refine ⟨PE.imp' (pe_cmp hc no_marks) fun σ H Q h => tDNotIn_mono (te_tdNotIn σ H Q (td_own h).2) fun b H' q => q.2, PT.imp' (pt_cmp hc no_marks) fun σ H Q h => ?_⟩
  refine tDNotIn_mono (te_tdNotIn σ H _ (td_own (post_truth _ _ _ h)).2) fun b H' q => ?_
  obtain ⟨_, k, h4, h5⟩ := q
  rw [tru_bl h4] at h5
  exact ⟨b, rfl, h5⟩
/-- the dict, then the key; here the dict is a variable's -/
theorem te_tdGet2 {K : PySem.W.Frag} {i : Nat} {e : E} : ∀ σ H Q, tEv K cl W (fun r => (evDs φ (.cons e .nil) r).bind fun ys r1 => tdV .get i ys r1) σ H Q → (∃ p, σ[i]? = some (some (.ref p))) → tDGet (tVar i) (tEv K cl W (evP φ e).1) σ H Q := by
  rintro σ H Q h ⟨p, hp⟩
  refine ⟨.ref p, hp, tEv_mono (te_tdGet σ H Q h) fun v H1 ⟨p', u, e1, g, q⟩ => ?_⟩
  rw [hp] at e1
  cases e1
  exact ⟨p, u, rfl, g, q⟩
theorem se_tdGet (ok : XOk G cl W φ s X) {i : Nat} {e : E} {x : Str} {l : Expr} {q2 p : Pos} (h2 : isVis s x = true) (h3 : nmOk x = true) (h4 : atN G i x = true) (he : Snd X cl W l (evP φ e)) (hs : isSlice l = false) :
    Snd X cl W (.Subscript (.Name x q2) l p) (evP φ (.td .get i (.cons e .nil))) := by
  unfold evP
  have hv : PE X (.Name x q2) (tVar i) := pe_var (ok.at_ h4) (ok.vis h2) (nmOk_1 h3).1 (nmOk_1 h3).2
  exact snd_mk (PE.imp' (pe_dget (room1 ok.units) hv he.1 (plainIx_of hs)) fun σ H Q h => te_tdGet2 σ H Q (td_own h).2 (td_own h).1)
theorem chk_td {G : Cg} {s : Sc} {ex : Expr} {o : Td} {i : Nat} {es : Es} (h : chkE G (.td o i es) s ex = true) :
    (o = .list ∧ es = .nil ∧ ∃ (y : Str) (q : Pos) (x : Str) (q2 p : Pos), ex = .Call (.Name y q) [.Name x q2] [] p ∧ y = biN .list ∧ isGl s y = true ∧ isVis s x = true ∧ nmOk x = true ∧ atN G i x = true) ∨
    (o = .sorted ∧ es = .nil ∧ ∃ (y : Str) (q : Pos) (x : Str) (q2 p : Pos), ex = .Call (.Name y q) [.Name x q2] [] p ∧ y = biN .sorted ∧ isGl s y = true ∧ isVis s x = true ∧ nmOk x = true ∧ atN G i x = true) ∨
    (o = .isin ∧ ∃ e, es = .cons e .nil ∧ ∃ (l : Expr) (x : Str) (q2 p : Pos), ex = .Compare l [.In] [.Name x q2] p ∧ isVis s x = true ∧ nmOk x = true ∧ atN G i x = true ∧ chkE G e s l = true) ∨
    (o = .notin ∧ ∃ e, es = .cons e .nil ∧ ∃ (l : Expr) (x : Str) (q2 p : Pos), ex = .Compare l [.NotIn] [.Name x q2] p ∧ isVis s x = true ∧ nmOk x = true ∧ atN G i x = true ∧ chkE G e s l = true) ∨
    (o = .get ∧ ∃ e, es = .cons e .nil ∧ ∃ (l : Expr) (x : Str) (q2 p : Pos), ex = .Subscript (.Name x q2) l p ∧ isVis s x = true ∧ nmOk x = true ∧ atN G i x = true ∧ chkE G e s l = true ∧ isSlice l = false) := by
  unfold chkE at h
  split at h
  · simp only [Bool.and_eq_true, decide_eq_true_eq] at h
    obtain ⟨⟨⟨⟨h0, h1⟩, h2⟩, h3⟩, h4⟩ := h
    exact .inl ⟨rfl, rfl, _, _, _, _, _, rfl, h0, h1, h2, h3, h4⟩
  · simp only [Bool.and_eq_true, decide_eq_true_eq] at h
    obtain ⟨⟨⟨⟨h0, h1⟩, h2⟩, h3⟩, h4⟩ := h
    exact .inr (.inl ⟨rfl, rfl, _, _, _, _, _, rfl, h0, h1, h2, h3, h4⟩)
  · simp only [Bool.and_eq_true] at h
    obtain ⟨⟨⟨h1, h2⟩, h3⟩, h4⟩ := h
    exact .inr (.inr (.inl ⟨rfl, _, rfl, _, _, _, _, rfl, h1, h2, h3, h4⟩))
  · simp only [Bool.and_eq_true] at h
    obtain ⟨⟨⟨h1, h2⟩, h3⟩, h4⟩ := h
    exact .inr (.inr (.inr (.inl ⟨rfl, _, rfl, _, _, _, _, rfl, h1, h2, h3, h4⟩)))
  · simp only [Bool.and_eq_true, Bool.not_eq_true'] at h
    obtain ⟨⟨⟨⟨h1, h2⟩, h3⟩, h4⟩, h5⟩ := h
    exact .inr (.inr (.inr (.inr ⟨rfl, _, rfl, _, _, _, _, rfl, h1, h2, h3, h4, h5⟩)))
  · cases h
/-- list(range(..)), tuple(range(..)) -/
theorem rgV_rep {A : Addr → Prop} {H : Hp} (a b : Int) : RepL A H (rgV a b) (rangeL a b) := by
  unfold rgV rangeL
  generalize (List.range (b - a).toNat) = l
  induction l with
  | nil => exact .nil
  | cons k l ih => exact .cons (.int _) ih
theorem rng_mk (ok : XOk G cl W φ s X) {t : Bool} {ex : Expr} {te : Sg → Hp → (Int → Int → Hp → Prop) → Prop} {q p : Pos} {ev : Rho → R AV} (h1 : isGl s (rngN t) = true) (he : PRg X ex te) (na : starEach [ex] X.env = (false, eval ex X.env) :: starEach [] X.env)
    (h : ∀ σ H Q, tEv X.K cl W ev σ H Q → te σ H fun a b H1 => okI a = true ∧ okI b = true ∧ (b - a).toNat ≤ line ∧ ∃ A, Allo A H1 ∧ ∀ v H', NewV A H1 H' v (rngD t a b).1 (rngD t a b).2 → Q v H') (mono : ∀ σ H Q Q', te σ H Q → (∀ a b H', Q a b H' → Q' a b H') → te σ H Q') :
    PE X (.Call (.Name (rngN t) q) [ex] [] p) (tEv X.K cl W ev) := by
  have rok : ∀ {a b : Int}, okI a = true → okI b = true → (b - a).toNat ≤ line → RgOk a b := fun h1 h2 h3 => by
    have h1 := of_decide_eq_true h1
    have h2 := of_decide_eq_true h2
    have hl : line = 16777216 := rfl
    exact ⟨by omega, by omega, by omega, by omega, by omega⟩
  cases t with
  | true =>
    refine PE.imp' (pe_tupRg ok.calm (ok.gl h1) (ok.blt _ (by simp [bltN, rngN])) he na) fun σ H Q w => mono _ _ _ _ (h σ H Q w) fun a b H1 ⟨h1, h2, h3, A, al, k⟩ => ⟨rok h1 h2 h3, fun d hd => k _ _ (.tup al hd (rgV_rep a b))⟩
  | false =>
    refine PE.imp' (pe_listRg ok.calm (ok.gl h1) (ok.blt _ (by simp [bltN, rngN])) he na) fun σ H Q w => mono _ _ _ _ (h σ H Q w) fun a b H1 ⟨h1, h2, h3, A, al, k⟩ => ⟨rok h1 h2 h3, fun d hd => k _ _ (.lst al hd (rgV_rep a b))⟩
theorem se_rng1 (ok : XOk G cl W φ s X) {t : Bool} {b : E} {q q2 p2 p : Pos} {l : Expr} (h1 : isGl s (rngN t) = true) (h2 : isGl s sRange = true) (hs : isStar l = false) (hb : Snd X cl W l (evP φ b)) :
    Snd X cl W (.Call (.Name (rngN t) q) [.Call (.Name sRange q2) [l] [] p2] [] p) (evP φ (.rng1 t b)) := by
  unfold evP
  refine snd_mk (rng_mk ok h1 (prg_1 (ok.gl h2) (ok.blt _ (by simp [bltN, sRange])) hb.1 (star_cons hs)) rfl ?_ fun σ H Q Q' h k => tEv_mono h fun x H1 ⟨n, e, q⟩ => ⟨n, e, k _ _ _ q⟩)
  refine post1 (t := fun x H1 Q => ∃ n, x = .int n ∧ okI 0 = true ∧ okI n = true ∧ (n - 0).toNat ≤ line ∧ ∃ A, Allo A H1 ∧ ∀ v H', NewV A H1 H' v (rngD t 0 n).1 (rngD t 0 n).2 → Q v H') fun A σ r H x v Q R q h => ?_
  obtain ⟨a, z, fr, r1, e, n⟩ := op1_post R q h
  cases a <;> try (cases e; done)
  rename_i i
  have e : (if okI i then some (rngD t 0 i) else none) = some (z, fr) := e
  split at e
  · rename_i c
    have e := Option.some.inj e
    have c' := of_decide_eq_true c
    refine ⟨i, r1, rfl, c, by unfold line; omega, _, R.av, ?_⟩
    rw [e]
    exact n
  · cases e
theorem se_rng2 (ok : XOk G cl W φ s X) {t : Bool} {a b : E} {q q2 p2 p : Pos} {l r : Expr} (h1 : isGl s (rngN t) = true) (h2 : isGl s sRange = true) (hs : isStar l = false) (hs2 : isStar r = false) (ha : Snd X cl W l (evP φ a)) (hb : Snd X cl W r (evP φ b)) :
    Snd X cl W (.Call (.Name (rngN t) q) [.Call (.Name sRange q2) [l, r] [] p2] [] p) (evP φ (.rng2 t a b)) := by
  unfold evP
  have ns : noStar [r] = true := by simp [noStar, hs2]
  refine snd_mk (rng_mk ok h1 (prg_2 (ok.gl h2) (ok.blt _ (by simp [bltN, sRange])) ha.1 hb.1 (star_cons hs) (star_cons hs2) (star_any ns)) rfl ?_ fun σ H Q Q' h k => tEv_mono h fun x H1 h1 => tEv_mono h1 fun y H2 ⟨i, j, e, e2, q⟩ => ⟨i, j, e, e2, k _ _ _ q⟩)
  refine post2 (t := fun x y H1 Q => ∃ i j, x = .int i ∧ y = .int j ∧ okI i = true ∧ okI j = true ∧ (j - i).toNat ≤ line ∧ ∃ A, Allo A H1 ∧ ∀ v H', NewV A H1 H' v (rngD t i j).1 (rngD t i j).2 → Q v H') fun A σ r H x y v u Q R q q2 h => ?_
  obtain ⟨a, b, z, fr, r1, r2, e, n⟩ := op2v_post R q q2 h
  cases a <;> cases b <;> try (cases e; done)
  rename_i i j
  have e : (if okI i && okI j && decide ((j - i).toNat ≤ line) then some (rngD t i j) else none) = some (z, fr) := e
  split at e
  · rename_i c
    rw [Bool.and_eq_true, Bool.and_eq_true] at c
    have e := Option.some.inj e
    refine ⟨i, j, r1, r2, c.1.1, c.1.2, of_decide_eq_true c.2, _, R.av, ?_⟩
    rw [e]
    exact n
  · cases e
/-- sorted(d) -/
theorem keys_pairs {A : Addr → Prop} {H : Hp} : ∀ {ws : List (List Key × V)} {kvs : List (D × D)} {bs : List Addr} {ps : List (Int × Int)}, RepT A H ws kvs → IsKeys H ws bs → pairsD (kvs.map (·.1)) = some ps → ∀ b ∈ bs, H b = some (.tup [.int (pairOf H (.ref b)).1, .int (pairOf H (.ref b)).2])
  | _, _, _, _, .nil, .nil, _ => fun b h => by cases h
  | _, _, _, _, .cons (k := k) (kvs := kvs) h t, .cons h2 t2, e => by
    match k, h2, e with
    | [.inl i, .inl j], h2, e =>
      have e' : (pairsD (kvs.map (·.1))).map ((i, j) :: ·) = some _ := e
      cases q : pairsD (kvs.map (·.1)) with
      | none => rw [q] at e'; cases e'
      | some ps =>
        intro b hb
        rcases List.mem_cons.mp hb with e | e
        · subst e
          have h2 : H b = some (.tup [.int i, .int j]) := h2
          have ep : pairOf H (.ref b) = (i, j) := by
            show (match H b with
              | some (.tup [.int a, .int b]) => (a, b)
              | _ => (0, 0)) = (i, j)
            rw [h2]
          rw [ep]; exact h2
        · exact keys_pairs t t2 q b e
theorem se_tdS (ok : XOk G cl W φ s X) {i : Nat} {x : Str} {q q2 p : Pos} (h1 : isGl s (biN .sorted) = true) (h2 : isVis s x = true) (h3 : nmOk x = true) (h4 : atN G i x = true) :
    Snd X cl W (.Call (.Name (biN .sorted) q) [.Name x q2] [] p) (evP φ (.td .sorted i .nil)) := by
  unfold evP
  have hv : PE X (.Name x q2) (tVar i) := pe_var (ok.at_ h4) (ok.vis h2) (nmOk_1 h3).1 (nmOk_1 h3).2
  refine snd_mk (PE.imp' (pe_callB (call_sorted_dT ok.calm) (ok.gl h1) (ok.blt _ (by simp [bltN, biN])) PyProof.Rows.boot_sorted (pa_1 hv rfl) (he := star_cons rfl)) ?_)
  intro σ H Q h0
  obtain ⟨A, r, R, h⟩ := (td_own h0).2
  have h : PostE X.K cl W A σ r H Q (tdV .sorted i [] r) := h
  unfold tdV at h
  split at h
  · rename_i kvs m e
    obtain ⟨p, e1, ⟨ws, e2, e3⟩, _⟩ := R.own i _ _ e
    split at h
    · rename_i z fr ez
      have ez : (sortedD (kvs.map (·.1))).map (fun ys => (PyData.list ys, true)) = some (z, fr) := ez
      cases e4 : sortedD (kvs.map (·.1)) with
      | none => rw [e4] at ez; cases ez
      | some zs =>
        rw [e4] at ez
        cases ez
        refine ⟨.ref p, e1, p, ws, rfl, .of e2, fun bs ik => ?_⟩
        have rl := keys_rep R.av e3 ik
        unfold sortedD at e4
        have hps : ∃ ps, pairsD (kvs.map (·.1)) = some ps ∧ zs = (sortP ps).map pairD := by
          cases e5 : intsD (kvs.map (·.1)) with
          | none =>
            rw [e5] at e4
            have e4 : (pairsD (kvs.map (·.1))).map (fun ps => (sortP ps).map pairD) = some zs := e4
            cases e6 : pairsD (kvs.map (·.1)) with
            | none => rw [e6] at e4; cases e4
            | some ps => rw [e6] at e4; cases e4; exact ⟨ps, rfl, rfl⟩
          | some ns =>
            have : kvs = [] := by
              cases e3 with
              | nil => rfl
              | cons _ _ => cases e5
            subst this
            cases e5
            cases e4
            exact ⟨[], rfl, rfl⟩
        obtain ⟨ps, e6, rfl⟩ := hps
        obtain ⟨g1, g2⟩ := rl.pairs e6
        refine ⟨keys_pairs e3 ik e6, fun d ys hd hs hb => ?_⟩
        have hperm := hb.perm
        have h3 : ∀ v ∈ ys, ∃ t, ¬ Av A σ r t ∧ v = .ref t ∧ H t = some (.tup [.int (pairOf H v).1, .int (pairOf H v).2]) := fun v hv => g2 v (hperm.mem_iff.mp hv)
        have h4 : ys.map (pairOf H) = sortP ps := by
          refine sortP_uniq ?_ ?_
          · rw [← g1]
            exact hperm.map _
          · exact List.pairwise_map.mpr (hs.imp fun {a b} h => h)
        have q' : ∀ v H', NewV (Av A σ r) H H' v (.list ((sortP ps).map pairD)) true → Q v H' := fun v H' n => h _ _ (.ofNew R n)
        rw [← h4] at q'
        exact q' _ _ (.lst R.av hd (RepL.of_pairs h3))
    · exact h.elim
  · exact h.elim
end
end Ev
/-! l.index(x); x in range(..). -/
namespace Ev
open PySem PySem.Spec PyProof.Rows L2
theorem cr_range1 {X : Cx} : CallR X (.type "range") (fun vs H Q => ∃ j, vs = [V.int j] ∧ ∀ p, H p = none → Q (.ref p) (upd H p (.rng 0 j))) := by
  intro pins s σ H vs us Q I r h
  obtain ⟨j, rfl, q⟩ := h
  obtain ⟨u1, rfl, t, rfl⟩ := vals1 r
  refine call_range_1 ⟨.ref s.heap.objs.size, upd H s.heap.objs.size (.rng 0 j), I.laid (t' := s.toks + 2) (fun b o e => Heap.get?_push_of_some _ e) (Nat.le_refl _) ?_, rfl, q _ (I.hok.fresh (Nat.le_refl _))⟩
  exact ⟨_, _, _, Heap.get?_push_size _ rfl⟩
def rInRng (neg : Bool) : R2 := fun x y H Q => ∃ i a lo hi, x = V.int i ∧ y = V.ref a ∧ H a = some (.rng lo hi) ∧ Q (.bl (if neg then !decide (lo ≤ i ∧ i < hi) else decide (lo ≤ i ∧ i < hi))) H
theorem rInRng_mono {neg : Bool} {x y : V} {H : Hp} {Q Q' : VK} (h : rInRng neg x y H Q) (k : ∀ b, Q (.bl b) H → Q' (.bl b) H) : rInRng neg x y H Q' := by
  obtain ⟨i, a, lo, hi, h1, h2, h3, h4⟩ := h
  exact ⟨i, a, lo, hi, h1, h2, h3, k _ h4⟩
def cpRng : Bool → CmpOp
  | true => .NotIn
  | false => .In
theorem op_rng {X : Cx} : ∀ neg : Bool, OpR X (compareOp (cpRng neg)) (rInRng neg)
  | false => op_in_rng
  | true => by
    intro pins s σ H x y v u Q I rx ry h
    obtain ⟨i, a, lo, hi, rfl, rfl, ha, q⟩ := h
    obtain ⟨k, rfl⟩ := rx
    obtain rfl : u = Value.ref a := ry
    obtain ⟨t1, t2, t3, ho⟩ := I.hok a _ ha
    show wpAny _ _ (do return Value.bool (!(← contains (Value.ref a) (Value.int i k)))) _ _ s
    refine wpAny_bind (wpAny_contains_slot (T := "range") ⟨_, ho, rfl⟩ F.slot_range_contains (call_meets F.slot_range_contains ⟨_, ho, rfl⟩ F.entry_range_contains (F.args_range_contains_2 _ _) (q_contains a lo hi i t1 t2 t3 k)
      ⟨ho, wpAny_truthy_bool (wpAny_pure ⟨.bl _, H, I, rfl, ?_⟩)⟩))
    rw [place1]
    exact q
theorem indexL_is {x : D} : ∀ {ys : List D} {k n : Nat}, indexL x ys k = some n → ∃ j z, n = k + j ∧ ys[j]? = some z ∧ PyData.eqv z x = true ∧ ∀ (m : Nat) (z' : PyData), m < j → ys[m]? = some z' → PyData.eqv z' x = false
  | [], k, n, h => by cases h
  | y :: ys, k, n, h => by
    unfold indexL at h
    cases e : PyData.eqv y x with
    | true =>
      rw [e] at h
      cases h
      exact ⟨0, y, rfl, rfl, e, fun m z' hm => by omega⟩
    | false =>
      rw [e] at h
      obtain ⟨j, z, h1, h2, h3, h4⟩ := indexL_is (ys := ys) (k := k + 1) (n := n) h
      refine ⟨j + 1, z, by omega, h2, h3, fun m z' hm hz => ?_⟩
      cases m with
      | zero => cases hz; exact e
      | succ m => exact h4 m z' (by omega) hz
section
variable {G : Cg} {cl : ClsT} {φ : Phi} {W : WX} {s : Sc} {X : Cx}
theorem se_inR1 (ok : XOk G cl W φ s X) {neg : Bool} {x b : E} {q p2 p : Pos} {l r : Expr} (h2 : isGl s sRange = true) (hs : isStar r = false) (hx : Snd X cl W l (evP φ x)) (hb : Snd X cl W r (evP φ b)) :
    Snd X cl W (.Compare l [cpRng neg] [.Call (.Name sRange q) [r] [] p2] p) (evP φ (.inR1 neg x b)) := by
  unfold evP
  have pr : PE X (.Call (.Name sRange q) [r] [] p2) _ := pe_callTy cr_range1 (ok.gl h2) (ok.blt _ (by simp [bltN, sRange])) PyProof.Rows.boot_range (pa_1 hb.1 hs) (he := star_cons hs)
  suffices te : ∀ σ H Q, tEv X.K cl W (fun r => ((evP φ x).1 r).bind fun x r1 => ((evP φ b).1 r1).bind fun y r2 => op2v (inR1D neg) x y r2) σ H Q → tOp (rInRng neg) (tEv X.K cl W (evP φ x).1) (tCB (fun vs H Q => ∃ j, vs = [V.int j] ∧ ∀ p, H p = none → Q (.ref p) (upd H p (.rng 0 j))) (tCons (tEv X.K cl W (evP φ b).1) tNil)) σ H Q by
    refine ⟨PE.imp' (pe_cmpR (op_rng neg) hx.1 pr (by cases neg <;> rfl)) te, PT.imp' (pt_cmpR (op_rng neg) hx.1 pr (by cases neg <;> rfl)) fun σ H Q h => ?_⟩
    have h := te _ _ _ (post_truth _ _ _ h)
    exact tEv_mono h fun x H1 h1 => tEv_mono h1 fun y H2 ⟨j, e, h2⟩ => ⟨j, e, fun p hp => rInRng_mono (h2 p hp) fun b h3 => by
      obtain ⟨k, h4, h5⟩ := h3
      rw [tru_bl h4] at h5
      exact ⟨b, rfl, h5⟩⟩
  refine post2 (t := fun x y H2 Q => ∃ j, [y] = [V.int j] ∧ ∀ p, H2 p = none → rInRng neg x (.ref p) (upd H2 p (.rng 0 j)) Q) fun A σ r H x y v u Q R q q2 h => ?_
  obtain ⟨a, b, z, fr, r1, r2, e, n⟩ := op2v_post R q q2 h
  cases a <;> cases b <;> try (cases e; done)
  rename_i i j
  cases e
  refine ⟨j, by rw [show u = V.int j from r2], fun p hp => ⟨i, p, 0, j, r1, rfl, upd_same, n _ _ ⟨grow hp, ?_⟩⟩⟩
  have e2 : (if neg then !decide (0 ≤ i ∧ i < j) else decide (0 ≤ i ∧ i < j)) = (if neg then !(decide (0 ≤ i) && decide (i < j)) else decide (0 ≤ i) && decide (i < j)) := by
    rw [show decide (0 ≤ i ∧ i < j) = (decide (0 ≤ i) && decide (i < j)) from Bool.decide_and _ _]
  rw [e2]
  exact .bl _
theorem se_inR2 (ok : XOk G cl W φ s X) {neg : Bool} {x a b : E} {q p2 p : Pos} {l r t : Expr} (h2 : isGl s sRange = true) (hs : isStar r = false) (hs2 : isStar t = false) (hx : Snd X cl W l (evP φ x)) (ha : Snd X cl W r (evP φ a)) (hb : Snd X cl W t (evP φ b)) :
    Snd X cl W (.Compare l [cpRng neg] [.Call (.Name sRange q) [r, t] [] p2] p) (evP φ (.inR2 neg x a b)) := by
  unfold evP
  have ns : noStar [t] = true := by simp [noStar, hs2]
  have pr : PE X (.Call (.Name sRange q) [r, t] [] p2) _ := pe_callTy cr_range2 (ok.gl h2) (ok.blt _ (by simp [bltN, sRange])) PyProof.Rows.boot_range (pa_cons ha.1 (pa_1 hb.1 hs2) (star_cons hs)) (he := star_cons hs) (hpl := star_any ns)
  suffices te : ∀ σ H Q, tEv X.K cl W (fun r => ((evP φ x).1 r).bind fun x r1 => ((evP φ a).1 r1).bind fun y r2 => ((evP φ b).1 r2).bind fun z r3 => inR2V neg x y z r3) σ H Q → tOp (rInRng neg) (tEv X.K cl W (evP φ x).1) (tCB (fun vs H Q => ∃ i j, vs = [V.int i, V.int j] ∧ ∀ p, H p = none → Q (.ref p) (upd H p (.rng i j))) (tCons (tEv X.K cl W (evP φ a).1) (tCons (tEv X.K cl W (evP φ b).1) tNil))) σ H Q by
    refine ⟨PE.imp' (pe_cmpR (op_rng neg) hx.1 pr (by cases neg <;> rfl)) te, PT.imp' (pt_cmpR (op_rng neg) hx.1 pr (by cases neg <;> rfl)) fun σ H Q h => ?_⟩
    have h := te _ _ _ (post_truth _ _ _ h)
    exact tEv_mono h fun x H1 h1 => tEv_mono h1 fun y H2 h2 => tEv_mono h2 fun z H3 ⟨i, j, e, h2⟩ => ⟨i, j, e, fun p hp => rInRng_mono (h2 p hp) fun b h3 => by
      obtain ⟨k, h4, h5⟩ := h3
      rw [tru_bl h4] at h5
      exact ⟨b, rfl, h5⟩⟩
  rintro σ H Q ⟨A, r, R, h⟩
  refine ⟨A, r, R, (PostE.bind h).mono ?_⟩
  rintro v H1 ⟨A1, r1, x, R1, q1, c1, h1⟩
  refine ⟨A1, r1, R1, (PostE.bind h1).mono ?_⟩
  rintro u H2 ⟨A2, r2, y, R2, q2, c2, h2⟩
  refine ⟨A2, r2, R2, (PostE.bind h2).mono ?_⟩
  rintro w H3 ⟨A3, r3, z, R3, q3, c3, h3⟩
  unfold inR2V at h3
  split at h3
  · rename_i i a b e1 e2 e3
    have g1 : v = V.int i := rd_ok R3 (c3 _ _ (c2 _ _ q1)) e1
    have g2 : u = V.int a := rd_ok R3 (c3 _ _ q2) e2
    have g3 : w = V.int b := rd_ok R3 q3 e3
    refine ⟨a, b, by rw [g2, g3], fun p hp => ⟨i, p, a, b, g1, rfl, upd_same, h3 _ _ (.ofNew R3 ⟨grow hp, ?_⟩)⟩⟩
    have e2 : (if neg then !decide (a ≤ i ∧ i < b) else decide (a ≤ i ∧ i < b)) = (if neg then !(decide (a ≤ i) && decide (i < b)) else decide (a ≤ i) && decide (i < b)) := by
      rw [show decide (a ≤ i ∧ i < b) = (decide (a ≤ i) && decide (i < b)) from Bool.decide_and _ _]
    rw [e2]
    exact .bl _
  · exact h3.elim
theorem se_lindex (ok : XOk G cl W φ s X) {a k : E} {l r : Expr} {apos cpos : Pos} (hl : apos.endLine = cpos.line) (hs : isStar r = false) (h0 : isCall0 l = false) (ha : Snd X cl W l (evP φ a)) (hk : Snd X cl W r (evP φ k)) :
    Snd X cl W (.Call (.Attribute l sIndex apos) [r] [] cpos) (evP φ (.mr .lindex a k)) := by
  unfold evP
  have ns : noStar [r] = true := by simp [noStar, hs]
  refine snd_mk (PE.imp' (pe_bm F.plainAttrs_list F.slot_list_index F.type_list_index (mt_indexD ok.units) ha.1 (pa_1 hk.1 hs) (attr_base h0) (by rw [star_all ns]; rfl) (by rw [hl]; exact beq_self_eq_true _) (star_cons hs)) ?_)
  rintro σ H Q ⟨A, r, R, h⟩
  refine ⟨A, r, R, (PostE.bind h).mono ?_⟩
  rintro v H1 ⟨A1, r1, x, R1, q1, c1, h1⟩
  split at h1
  · rename_i hd
    have hx : ∃ xs, rd r1 x = some (.list xs) := by
      unfold isSV at hd
      split at hd
      · rename_i xs _ e; exact ⟨xs, e⟩
      · rename_i e _; cases e
      · cases hd
    obtain ⟨xs, ex⟩ := hx
    have rx := rd_ok R1 q1 ex
    obtain ⟨p, vs, rfl, hp, _⟩ := rx
    refine ⟨.inl ⟨rfl, vs, .of hp⟩, A1, r1, R1, (PostE.bind h1).mono ?_⟩
    rintro u H2 ⟨A2, r2, y, R2, q2, c2, h2⟩
    obtain ⟨b, c, z, fr, g1, g2, e3, n⟩ := op2v_post R2 (c2 _ _ q1) q2 h2
    cases b with
    | list ys =>
      have e3 : (if SeqAt.shaped c && SeqAt.shaped (.list ys) then (indexL c ys 0).map fun n => (PyData.int n, false) else none) = some (z, fr) := e3
      split at e3
      · rename_i hc
        rw [Bool.and_eq_true] at hc
        cases e4 : indexL c ys 0 with
        | none => rw [e4] at e3; cases e3
        | some n' =>
          rw [e4] at e3
          cases e3
          obtain ⟨j, w, ej, e5, e6, e7⟩ := indexL_is e4
          obtain rfl : n' = j := by omega
          exact ⟨p, u, c, ys, n', w, rfl, rfl, RepB.dp g1 hc.2, RepB.dp g2 hc.1, hc.2, hc.1, e5, e6, e7, n _ _ (.here (.int _))⟩
      · cases e3
    | _ => cases e3
  · exact h1.elim
theorem chk_lindex {ex : Expr} {m : Mr} {a b : E} (h : chkE G (.mr m a b) s ex = true) : m = .lindex ∧ ∃ (l : Expr) (apos : Pos) (r : Expr) (cpos : Pos), ex = .Call (.Attribute l sIndex apos) [r] [] cpos ∧ apos.endLine = cpos.line ∧ isStar r = false ∧ isCall0 l = false ∧ chkE G a s l = true ∧ chkE G b s r = true := by
  unfold chkE at h
  split at h
  · (try simp only [Bool.and_eq_true, decide_eq_true_eq, Bool.not_eq_true', Bool.not_eq_false', beq_iff_eq] at h); obtain ⟨⟨⟨⟨⟨rfl, h1⟩, h2⟩, h3⟩, h4⟩, h5⟩ := h; exact ⟨rfl, _, _, _, _, rfl, h1, h2, h3, h4, h5⟩
  · cases h
theorem chk_inR1 {ex : Expr} {neg : Bool} {x b : E} (h : chkE G (.inR1 neg x b) s ex = true) : ∃ (l : Expr) (q : Pos) (r : Expr) (p2 p : Pos), ex = .Compare l [cpRng neg] [.Call (.Name sRange q) [r] [] p2] p ∧ isGl s sRange = true ∧ isStar r = false ∧ chkE G x s l = true ∧ chkE G b s r = true := by
  unfold chkE at h
  split at h
  · (try simp only [Bool.and_eq_true, decide_eq_true_eq, Bool.not_eq_true', Bool.not_eq_false', beq_iff_eq] at h); obtain ⟨⟨⟨⟨rfl, h1⟩, h2⟩, h3⟩, h4⟩ := h; exact ⟨_, _, _, _, _, rfl, h1, h2, h3, h4⟩
  · (try simp only [Bool.and_eq_true, decide_eq_true_eq, Bool.not_eq_true', Bool.not_eq_false', beq_iff_eq] at h); obtain ⟨⟨⟨⟨rfl, h1⟩, h2⟩, h3⟩, h4⟩ := h; exact ⟨_, _, _, _, _, rfl, h1, h2, h3, h4⟩
  · cases h
theorem chk_inR2 {ex : Expr} {neg : Bool} {x a b : E} (h : chkE G (.inR2 neg x a b) s ex = true) : ∃ (l : Expr) (q : Pos) (r t : Expr) (p2 p : Pos), ex = .Compare l [cpRng neg] [.Call (.Name sRange q) [r, t] [] p2] p ∧ isGl s sRange = true ∧ isStar r = false ∧ isStar t = false ∧ chkE G x s l = true ∧ chkE G a s r = true ∧ chkE G b s t = true := by
  unfold chkE at h
  split at h
  · (try simp only [Bool.and_eq_true, decide_eq_true_eq, Bool.not_eq_true', Bool.not_eq_false', beq_iff_eq] at h); obtain ⟨⟨⟨⟨⟨⟨rfl, h1⟩, h2⟩, h3⟩, h4⟩, h5⟩, h6⟩ := h; exact ⟨_, _, _, _, _, _, rfl, h1, h2, h3, h4, h5, h6⟩
  · (try simp only [Bool.and_eq_true, decide_eq_true_eq, Bool.not_eq_true', Bool.not_eq_false', beq_iff_eq] at h); obtain ⟨⟨⟨⟨⟨⟨rfl, h1⟩, h2⟩, h3⟩, h4⟩, h5⟩, h6⟩ := h; exact ⟨_, _, _, _, _, _, rfl, h1, h2, h3, h4, h5, h6⟩
  · cases h
end
end Ev
/-! A call that a fresh list is handed in to. -/
namespace Ev
open PySem PySem.Spec PyProof.Rows L2
section
variable {K : PySem.W.Frag} {cl : ClsT} {W : WX} {A : Addr → Prop} {σ : Sg} {r : Rho} {H : Hp}
theorem cf_get {α : Type} {l : List α} {y : α} {i : Nat} {z : α} (h : (l ++ [y])[i]? = some z) : (i < l.length ∧ l[i]? = some z) ∨ (i = l.length ∧ z = y) := by
  by_cases e : i < l.length
  · rw [List.getElem?_append_left e] at h
    exact .inl ⟨e, h⟩
  · rw [List.getElem?_append_right (by omega)] at h
    have hz : i - l.length = 0 := by
      by_cases e2 : i - l.length = 0
      · exact e2
      · rw [List.getElem?_eq_none (by simp; omega)] at h; cases h
    rw [hz] at h
    exact .inr ⟨by omega, by cases h; rfl⟩
theorem cf_lt {α : Type} {l : List α} {y : α} {i : Nat} {z : α} (h : l[i]? = some z) : (l ++ [y])[i]? = some z := by
  rw [List.getElem?_append_left]
  · exact h
  · exact (List.getElem?_eq_some_iff.mp h).1
theorem cf_take {α : Type} {l : List α} {n i : Nat} {z : α} (h : (l.take n)[i]? = some z) : i < n ∧ l[i]? = some z := by
  rw [List.getElem?_take] at h
  split at h
  · exact ⟨by assumption, h⟩
  · cases h
/-- who owns, with the fresh one -/
theorem own_ext {xs : List D} {p : Addr} (hl : σ.length = r.length) {q : Addr} : Own (σ ++ [some (V.ref p)]) (r ++ [some (.own (.lst xs) true)]) q ↔ Own σ r q ∨ q = p := by
  constructor
  · rintro ⟨i, o, m, e1, e2⟩
    rcases cf_get e1 with ⟨h1, e1⟩ | ⟨h1, e1⟩
    · rcases cf_get e2 with ⟨h2, e2⟩ | ⟨h2, e2⟩
      · exact .inl ⟨i, o, m, e1, e2⟩
      · omega
    · rcases cf_get e2 with ⟨h2, e2⟩ | ⟨h2, e2⟩
      · omega
      · cases e2; exact .inr rfl
  · rintro (⟨i, o, m, e1, e2⟩ | rfl)
    · exact ⟨i, o, m, cf_lt e1, cf_lt e2⟩
    · refine ⟨r.length, .lst xs, true, ?_, ?_⟩
      · rw [List.getElem?_append_right (Nat.le_refl _)]; simp
      · rw [← hl, List.getElem?_append_right (Nat.le_refl _)]; simp
theorem rl_ext {xs : List D} {p : Addr} (R : Rl K (And1 A p) σ H r) (na : ¬ A p) (no : ¬ Own σ r p) (ob : ObD (Av (And1 A p) σ r) H p (.list xs)) : Rl K A (σ ++ [some (V.ref p)]) H (r ++ [some (.own (.lst xs) true)]) := by
  have av : ∀ q, Av A (σ ++ [some (V.ref p)]) (r ++ [some (.own (.lst xs) true)]) q → Av (And1 A p) σ r q := fun q z => by
    rcases z with z | z
    · exact .inl (.inl z)
    · rcases (own_ext R.len).mp z with z | z
      · exact .inr z
      · exact .inl (.inr z)
  refine ⟨?_, ?_, ?_, ?_, ?_, fun q z => R.al q (.inl z)⟩
  · rw [List.length_append, List.length_append, R.len]; rfl
  · intro i x e
    rcases cf_get e with ⟨h1, e⟩ | ⟨h1, e⟩
    · obtain ⟨v, e1, e2⟩ := R.d i x e
      exact ⟨v, cf_lt e1, e2.mono av⟩
    · cases e
  · intro i o m e
    rcases cf_get e with ⟨h1, e⟩ | ⟨h1, e⟩
    · obtain ⟨q, e1, e2, e3⟩ := R.own i o m e
      exact ⟨q, cf_lt e1, e2.mono av, fun z y => e3 z (.inl y)⟩
    · cases e
      refine ⟨p, ?_, ?_, fun _ => na⟩
      · rw [h1, ← R.len, List.getElem?_append_right (Nat.le_refl _)]; simp
      · obtain ⟨vs, h2, h3⟩ := ob
        exact ⟨vs, h2, h3.mono av⟩
  · intro i x e
    rcases cf_get e with ⟨h1, e⟩ | ⟨h1, e⟩
    · obtain ⟨v, e1, e2⟩ := R.ro i x e
      exact ⟨v, cf_lt e1, e2.mono av⟩
    · cases e
  · intro i j o m o' m' q e1 e2 e3 e4
    rcases cf_get e1 with ⟨h1, e1⟩ | ⟨h1, e1⟩ <;> rcases cf_get e2 with ⟨h2, e2⟩ | ⟨h2, e2⟩
    · rcases cf_get e3 with ⟨_, e3⟩ | ⟨h3, e3⟩
      · rcases cf_get e4 with ⟨_, e4⟩ | ⟨h4, e4⟩
        · exact R.inj i j o m o' m' q e1 e2 e3 e4
        · rw [R.len] at h4; omega
      · rw [R.len] at h3; omega
    · rcases cf_get e4 with ⟨h4, e4⟩ | ⟨h4, e4⟩
      · rw [R.len] at h4; omega
      · cases e4
        rcases cf_get e3 with ⟨_, e3⟩ | ⟨h3, e3⟩
        · exact absurd ⟨i, o, m, e1, e3⟩ no
        · rw [R.len] at h3; omega
    · rcases cf_get e3 with ⟨h3, e3⟩ | ⟨h3, e3⟩
      · rw [R.len] at h3; omega
      · cases e3
        rcases cf_get e4 with ⟨_, e4⟩ | ⟨h4, e4⟩
        · exact absurd ⟨j, o', m', e2, e4⟩ no
        · rw [R.len] at h4; omega
    · omega
theorem pa_ext {xs : List D} {p : Addr} (R : Rl K (And1 A p) σ H r) : ∀ {as : List AV} {vs : List V} {args : List SV}, argsV (r ++ [some (.own (.lst xs) true)]) as = some args → Paired (fun v a => HV K (And1 A p) σ H r v a) vs as → Paired (fun v a => HV K A (σ ++ [some (V.ref p)]) H (r ++ [some (.own (.lst xs) true)]) v a) vs as
  | _, _, _, _, .nil => .nil
  | a :: as, v :: vs, args, ea, .cons h t => by
    obtain ⟨b, ws, rfl, h1, h2⟩ := argsV_cons ea
    refine .cons ?_ (pa_ext R h2 t)
    cases a with
    | d x f =>
      cases f with
      | true => cases h1
      | false =>
        have h : Rep (Av (And1 A p) σ r) H v x := h
        refine h.mono fun q z => ?_
        rcases z with z | z
        · exact .inl (.inl z)
        · rcases (own_ext R.len).mp z with z | z
          · exact .inr z
          · exact .inl (.inr z)
    | cst x => cases h1
    | var i => exact cf_lt h
theorem stp_take {xs : List D} {p : Addr} {r' : Rho} {H' H0 : Hp} {A0 : Addr → Prop} {r0 : Rho} (hl : σ.length = r.length) (s0 : Stp σ r0 r H0 H) (hp : H0 p = none) (s : Stp (σ ++ [some (V.ref p)]) (r ++ [some (.own (.lst xs) true)]) r' H H') : Stp σ r0 (r'.take r.length) H0 H' := by
  refine ⟨fun q o e n => ?_, fun q => Nat.le_trans (s0.live q) (s.live q), fun i o m e => ?_⟩
  · refine s.keep q o (s0.keep q o e n) fun z => ?_
    rcases (own_ext hl).mp z with z | z
    · exact n (s0.own q z)
    · subst z; rw [hp] at e; cases e
  · obtain ⟨h1, e⟩ := cf_take e
    obtain ⟨o', e'⟩ := s.slot i o m e
    rcases cf_get e' with ⟨_, e'⟩ | ⟨h2, _⟩
    · exact s0.slot i _ m e'
    · omega
theorem own_take {p : Addr} {r' : Rho} {n : Nat} {q : Addr} (h : Own σ (r'.take n) q) : Own (σ ++ [some (V.ref p)]) r' q := by
  obtain ⟨i, o, m, e1, e2⟩ := h
  exact ⟨i, o, m, (cf_take e1).2, cf_lt e2⟩
theorem rl_take {p : Addr} {r' : Rho} {H' : Hp} {n : Nat} (hl : σ.length = n) (hr : r'.length = n + 1) (R : Rl K A (σ ++ [some (V.ref p)]) H' r') : Rl K A σ H' (r'.take n) := by
  have av : ∀ q, Av A σ (r'.take n) q → Av A (σ ++ [some (V.ref p)]) r' q := fun q z => z.imp id own_take
  have un : ∀ {i : Nat} {v : Option V}, i < n → (σ ++ [some (V.ref p)])[i]? = some v → σ[i]? = some v := fun {i v} h e => by
    rcases cf_get e with ⟨_, e⟩ | ⟨h2, _⟩
    · exact e
    · omega
  refine ⟨by rw [List.length_take]; omega, ?_, ?_, ?_, ?_, R.al⟩
  · intro i x e
    obtain ⟨h1, e⟩ := cf_take e
    obtain ⟨v, e1, e2⟩ := R.d i x e
    exact ⟨v, un h1 e1, e2.mono av⟩
  · intro i o m e
    obtain ⟨h1, e⟩ := cf_take e
    obtain ⟨q, e1, e2, e3⟩ := R.own i o m e
    exact ⟨q, un h1 e1, e2.mono av, e3⟩
  · intro i x e
    obtain ⟨h1, e⟩ := cf_take e
    obtain ⟨v, e1, e2⟩ := R.ro i x e
    exact ⟨v, un h1 e1, e2.mono av⟩
  · intro i j o m o' m' q e1 e2 e3 e4
    exact R.inj i j o m o' m' q (cf_take e1).2 (cf_take e2).2 (cf_lt e3) (cf_lt e4)
theorem callF_post {Q : VK} {g : Sem} {xs : List D} {p : Addr} {as : List AV} {vs : List V} {r0 : Rho} {H0 : Hp} (s0 : Stp σ r0 r H0 H) (hp : H0 p = none) (al : Allo A H0) (R : Rl K (And1 A p) σ H r) (no : ¬ Own σ r p) (ob : ObD (Av (And1 A p) σ r) H p (.list xs))
    (pa : Paired (fun v a => HV K (And1 A p) σ H r v a) vs as) (h : PostE K cl W A σ r0 H0 Q (callFV g (.d (.list xs) true) as r)) : spF K cl g (.ref p :: vs) H Q (WE W σ) := by
  have na : ¬ A p := fun z => al.ne z hp
  have R' := rl_ext R na no ob
  have hx : (σ ++ [some (V.ref p)])[r.length]? = some (some (V.ref p)) := by
    rw [← R.len, List.getElem?_append_right (Nat.le_refl _)]; simp
  have hdl : (σ ++ [some (V.ref p)]).take σ.length = σ := by simp
  have key : ∀ as', as' = .var r.length :: as → ∀ args, argsV (r ++ [some (.own (.lst xs) true)]) as' = some args → spF K cl g (.ref p :: vs) H Q (WE (fun v d τ H' => W v d (τ.take σ.length) H') (σ ++ [some (V.ref p)])) := by
    rintro as' rfl args ea
    obtain ⟨b, ws, rfl, h1, h2⟩ := argsV_cons ea
    refine call_post R' (.cons (show HV K A (σ ++ [some (V.ref p)]) H (r ++ [some (.own (.lst xs) true)]) (V.ref p) (.var r.length) from hx) (pa_ext R h2 pa)) ?_
    have h : PostE K cl W A σ r0 H0 Q (match callV g (.var r.length :: as) (r ++ [some (.own (.lst xs) true)]) with
      | .ok (.d d fr) r' => .ok (.d d fr) (r'.take r.length)
      | .exc c fs r' => .exc c fs (r'.take r.length)
      | _ => .stuck) := h
    generalize hc : callV g (.var r.length :: as) (r ++ [some (.own (.lst xs) true)]) = ra at h ⊢
    cases ra with
    | stuck => exact h
    | exc c fs r' =>
      intro C dx H' st Rl' x
      have hr : r'.length = r.length + 1 := by
        have := Rl'.len
        rw [List.length_append, R.len] at this
        exact this.symm
      have := h C dx H' (stp_take (A0 := A) R.len s0 hp st) (rl_take R.len hr Rl') (x.mono fun q z => z.imp id own_take)
      show W (.ref C) dx ((σ ++ [some (V.ref p)]).take σ.length) H'
      rw [hdl]
      exact this
    | ok a r' =>
      cases a with
      | var i => exact h.elim
      | cst i => exact h.elim
      | d y fr =>
        intro v H' ok
        obtain ⟨st, ok⟩ := ok
        refine h v H' ⟨stp_take (A0 := A) R.len s0 hp st, ?_⟩
        cases fr with
        | false =>
          obtain ⟨Rl', rv⟩ := ok
          have hr : r'.length = r.length + 1 := by
            have := Rl'.len
            rw [List.length_append, R.len] at this
            exact this.symm
          have rv : Rep (Av A (σ ++ [some (V.ref p)]) r') H' v y := rv
          exact ⟨rl_take R.len hr Rl', rv.mono fun q z => z.imp id own_take⟩
        | true =>
          obtain ⟨q, e, hq, no', Rl', o⟩ := ok
          have hr : r'.length = r.length + 1 := by
            have := Rl'.len
            rw [List.length_append, R.len] at this
            exact this.symm
          exact ⟨q, e, s0.none hq, fun z => no' (own_take z), rl_take R.len hr Rl', o.mono fun q z => z.imp id own_take⟩
  cases ea : argsV (r ++ [some (.own (.lst xs) true)]) (.var r.length :: as) with
  | none =>
    exfalso
    have e : callV g (.var r.length :: as) (r ++ [some (.own (.lst xs) true)]) = .stuck := by
      unfold callV
      rw [ea]
    have h : PostE K cl W A σ r0 H0 Q (match callV g (.var r.length :: as) (r ++ [some (.own (.lst xs) true)]) with
      | .ok (.d d fr) r' => .ok (.d d fr) (r'.take r.length)
      | .exc c fs r' => .exc c fs (r'.take r.length)
      | _ => .stuck) := h
    rw [e] at h
    exact h
  | some args =>
    have := key _ rfl args ea
    have e : WE (fun v d τ H' => W v d (τ.take σ.length) H') (σ ++ [some (V.ref p)]) = WE W σ := by
      funext v d H'
      show W v d ((σ ++ [some (V.ref p)]).take σ.length) H' = W v d σ H'
      rw [hdl]
    rw [e] at this
    exact this
end
section
variable {G : Cg} {cl : ClsT} {W : WX} {φ : Phi} {s : Sc} {X : Cx}
theorem se_callF (ok : XOk G cl W φ s X) {f : Nat} {e : E} {es : Es} {x : Str} {q p : Pos} {l : Expr} {ls : List Expr} (hf : (match G.fna[f]? with | some y => decide (y = x) | none => false) = true) (h1 : isGl s x = true) (h2 : nmOk x = true) (hs : isStar l = false) (hc : chkEs G es s ls = true)
    (ha : Snd X cl W l (evP φ e)) (has : PA X ls (tAv X.K cl W (evAs φ es))) : Snd X cl W (.Call (.Name x q) (l :: ls) [] p) (evP φ (.callF f e es)) := by
  unfold evP
  have e0 : G.fna[f]? = some x := by
    split at hf
    · rename_i y e
      rw [e, of_decide_eq_true hf]
    · cases hf
  obtain ⟨k, fa, fd, ps, m1, m2, m3, m4, m5⟩ := ok.fns f x e0
  have ns := (chkEs_len hc).1
  refine snd_mk (PE.imp' (pe_callSD (E := WE W) m5 m4 (ok.gl h1) m1 m2 m3 (dvs := []) .nil (L2N.passAt ok.tk) (pa_cons ha.1 has (star_cons hs)) (nmOk_1 h2).1 (star_cons hs) (star_any ns)) ?_)
  rintro σ H Q ⟨A, r, R, h⟩
  refine ⟨A, r, R, ?_⟩
  dsimp only at h
  generalize (evP φ e).1 r = ra at h ⊢
  cases ra with
  | stuck => exact h
  | exc c fs r' => exact h
  | ok y r1 =>
    intro v H1 okx
    have h : PostE X.K cl W A σ r H Q ((evAs φ es r1).bind fun as r2 => callFV (φ f) y as r2) := h
    have bad : (∀ as r2, callFV (φ f) y as r2 = .stuck) → tAv X.K cl W (evAs φ es) σ H1 fun vs H2 => spF X.K cl (φ f) (v :: vs ++ []) H2 Q (WE W σ) := fun hb => by
      obtain ⟨A1, h1, g1, s1, R1, q1⟩ := okx.hold
      refine ⟨A1, r1, R1, ?_⟩
      generalize evAs φ es r1 = rb at h ⊢
      cases rb with
      | stuck => exact h
      | exc c fs r' => exact PostX.back s1 h1 h
      | ok as r2 =>
        exfalso
        have h : PostE X.K cl W A σ r H Q (callFV (φ f) y as r2) := h
        rw [hb] at h
        exact h
    match y, okx, h, bad with
    | .d (.list xs) true, ⟨s1, pp, e1, hp, no, R1, ob⟩, h, _ =>
      subst e1
      refine ⟨And1 A pp, r1, R1, ?_⟩
      generalize evAs φ es r1 = rb at h ⊢
      cases rb with
      | stuck => exact h
      | exc c fs r' => exact PostX.back s1 (fun _ z => .inl z) h
      | ok as r2 =>
        intro vs H2 s2 R2 q2
        show spF X.K cl (φ f) ((V.ref pp :: vs) ++ []) H2 Q (WE W σ)
        rw [List.append_nil]
        have q1 : HV X.K (And1 A pp) σ H1 r1 (V.ref pp) (.d (.list xs) true) := ⟨pp, rfl, .inr rfl, no, ob⟩
        obtain ⟨p2, e2, _, no2, ob2⟩ := q1.step s2 (fun _ z => z) (fun _ z => .inl z)
        cases e2
        exact callF_post (s1.trans s2) hp R.al R2 no2 ob2 q2 h
    | .d (.list xs) false, _, _, bad => exact bad fun _ _ => rfl
    | .d .none _, _, _, bad => exact bad fun _ _ => rfl
    | .d (.bool _) _, _, _, bad => exact bad fun _ _ => rfl
    | .d (.int _) _, _, _, bad => exact bad fun _ _ => rfl
    | .d (.str _) _, _, _, bad => exact bad fun _ _ => rfl
    | .d (.tuple _) _, _, _, bad => exact bad fun _ _ => rfl
    | .d (.dict _) _, _, _, bad => exact bad fun _ _ => rfl
    | .var _, _, _, bad => exact bad fun _ _ => rfl
    | .cst _, _, _, bad => exact bad fun _ _ => rfl
end
end Ev
/-! enumerate(t), t a tuple. -/
namespace EvEn
open PySem PySem.Spec PyProof.Rows HT
open AutoSeq1 (wpAny_loadPart')
theorem meets_newT (l : Addr) (items : Array Value) (n : Nat) (dct : Option Addr) (sl : Array (Option Value)) :
    Meets (Builtin.«enumerate.__new__» ⟨[.type "enumerate", .ref l], []⟩) (fun _ R s => s.heap.get? l = some { cls := .type "tuple", dict := dct, data := .seq items n, slots := sl } ∧
      R (.ok (.ret (.ref (s.heap.push { cls := .type "tuple_iterator", data := .fields #[.ref l, .int 0 0] }).objs.size)))
        { s with heap := (s.heap.push { cls := .type "tuple_iterator", data := .fields #[.ref l, .int 0 0] }).push { cls := .type "enumerate", data := .fields #[.none, .bool false, .ref s.heap.objs.size, rawInt 0, .none, .none] } }) :=
  .of_wp fun prog w A R s h => by
    obtain ⟨hp, g, d, tk, os⟩ := s; obtain ⟨hl, h⟩ := h
    have hsub := sub_enumerate
    have hL : IsTup (Shared.heap ⟨hp, g, d, tk, os⟩) l items := ⟨_, hl, rfl, n, rfl⟩
    wp_walk using wpAny_loadPart' hl
    refine wpAny_stack_any fun st => wpAny_pure ?_
    split
    · rename_i c _ _ _ _ _
      cases (c == Value.type "enumerate")
      · wp_walk using wpAny_loadPart' hl, iter_tuple hL
        exact ⟨_, rfl, h⟩
      · wp_walk using wpAny_loadPart' hl, iter_tuple hL
        exact ⟨_, rfl, h⟩
    · wp_walk using wpAny_loadPart' hl, iter_tuple hL
      exact ⟨_, rfl, h⟩
section
variable {prog : Program} {w : World} {A : Around} {E : Value → Shared → Prop} {s : Shared}
theorem call_enumT {l : Addr} {items : Array Value} {Q : Value → Shared → Prop} (hL : IsTup s.heap l items)
    (h : ∀ h', IsEnum h' (s.heap.objs.size + 1) s.heap.objs.size 0 .none → IsTupIter h' s.heap.objs.size l 0 → h'.objs.size = s.heap.objs.size + 2 →
      (∀ b o, s.heap.get? b = some o → h'.get? b = some o) → Q (.ref (s.heap.objs.size + 1)) { s with heap := h' }) :
    wpAny (model prog w) A (call (.type "enumerate") [.ref l]) Q E s := by
  obtain ⟨⟨c, dct, dt, sl⟩, hl, hc, n, hd⟩ := hL
  replace hc : c = .type "tuple" := hc
  replace hd : dt = .seq items n := hd
  subst hc hd
  refine callType_new F.called_enumerate (by decide) (F.typeCall_enumerate_1 _) (F.newCall_enumerate_1 _) (fun obj => F.args_object_init_2 obj _) F.entry_enumerate_new
    (meets_newT l items n dct sl) ⟨hl, ?_⟩
  have hz : (s.heap.push { cls := .type "tuple_iterator", data := .fields #[.ref l, .int 0 0] }).objs.size = s.heap.objs.size + 1 := Heap.size_push ..
  show _ ∧ _
  rw [hz]
  have he : IsEnum ((s.heap.push { cls := .type "tuple_iterator", data := .fields #[.ref l, .int 0 0] }).push
      { cls := .type "enumerate", data := .fields #[.none, .bool false, .ref s.heap.objs.size, rawInt 0, .none, .none] }) (s.heap.objs.size + 1) s.heap.objs.size 0 .none := by
    have := Heap.get?_push_size (s.heap.push { cls := .type "tuple_iterator", data := .fields #[.ref l, .int 0 0] })
      (o := { cls := .type "enumerate", data := .fields #[.none, .bool false, .ref s.heap.objs.size, rawInt 0, .none, .none] }) rfl
    rw [hz] at this; exact this
  refine ⟨⟨_, he, rfl⟩, h _ he ⟨_, Heap.get?_push_of_some _ (Heap.get?_push_size _ rfl), rfl, rfl⟩ (by rw [Heap.size_push, hz]) fun b o x => Heap.get?_push_of_some _ (Heap.get?_push_of_some _ x)⟩
theorem nextOf_item {it l : Addr} {i : Nat} {items} {x : Value} {Q : Value → Shared → Prop} (hit : IsTupIter s.heap it l i)
    (hl : IsTup s.heap l items) (hx : items[i]? = some x)
    (hQ : ∀ h', IsTupIter h' it l (i + 1) → Heap.SameBut it s.heap h' → Q x { s with heap := h' }) :
    wpAny (model prog w) A (Builtin.SmallTypes.nextOf (.ref it)) Q E s := by
  obtain ⟨o, ho, hc, hd⟩ := id hit
  obtain ⟨ol, hol, _, nl, hdl⟩ := hl
  unfold Builtin.SmallTypes.nextOf
  refine wpAny_bind (wpAny_callSpecial?_slot (name := Str.ofString "__next__") hit.typeIs slot_tupleiter_next
    (wpAny_call_entry slot_tupleiter_next hit.typeIs entry_tupleiter_next ?_ (args_tupleiter_next _)))
  show wpAny _ _ (field (.ref it) 0 >>= _) _ _ s
  refine wpAny_bind (wpAny_field ho hd (x := .ref l) rfl ?_)
  show wpAny _ _ (if (Value.ref l == Value.none) = true then _ else _) _ _ s
  rw [if_neg (show ¬ ((Value.ref l == Value.none) = true) from Bool.false_ne_true)]
  show wpAny _ _ (field (.ref it) 1 >>= _) _ _ s
  refine wpAny_bind (wpAny_field ho hd (x := .int i 0) rfl ?_)
  show wpAny _ _ (seqItems? (.ref l) >>= _) _ _ s
  refine wpAny_bind (wpAny_seqItems hol hdl ?_)
  simp only [Int.toNat_natCast, hx]
  refine wpAny_bind (wpAny_setField ho hd (by simp) (wpAny_pure ⟨x, rfl, wpAny_pure (hQ _ ?_ (Heap.SameBut.update ..))⟩))
  exact ⟨_, Heap.get?_update_self _ ho (Obj.isFreed_of_fields (Obj.data_mapFields hd _)), (Obj.cls_mapFields ..).trans hc, by
    rw [Obj.data_mapFields hd]; simp [rawInt]⟩
theorem nextOf_end {it l : Addr} {i : Nat} {items} {Q : Value → Shared → Prop} (hh : A.handled = none)
    (hit : IsTupIter s.heap it l i) (hl : IsTup s.heap l items) (hx : items[i]? = none)
    (hE : ∀ h' e, Heap.ExtBut it s.heap h' → (∃ o, h'.get? e = some o ∧ o.cls = .type "StopIteration") → E (.ref e) { s with heap := h' }) :
    wpAny (model prog w) A (Builtin.SmallTypes.nextOf (.ref it)) Q E s := by
  obtain ⟨o, ho, hc, hd⟩ := id hit
  obtain ⟨ol, hol, _, nl, hdl⟩ := hl
  unfold Builtin.SmallTypes.nextOf
  refine wpAny_bind (wpAny_callSpecial?_slot (name := Str.ofString "__next__") hit.typeIs slot_tupleiter_next
    (wpAny_call_entry slot_tupleiter_next hit.typeIs entry_tupleiter_next ?_ (args_tupleiter_next _)))
  show wpAny _ _ (field (.ref it) 0 >>= _) _ _ s
  refine wpAny_bind (wpAny_field ho hd (x := .ref l) rfl ?_)
  show wpAny _ _ (if (Value.ref l == Value.none) = true then _ else _) _ _ s
  rw [if_neg (show ¬ ((Value.ref l == Value.none) = true) from Bool.false_ne_true)]
  show wpAny _ _ (field (.ref it) 1 >>= _) _ _ s
  refine wpAny_bind (wpAny_field ho hd (x := .int i 0) rfl ?_)
  show wpAny _ _ (seqItems? (.ref l) >>= _) _ _ s
  refine wpAny_bind (wpAny_seqItems hol hdl ?_)
  simp only [Int.toNat_natCast, hx]
  refine wpAny_bind (wpAny_rule (wpAny_bind (wpAny_setField ho hd (by simp) ?_)))
  show wpAny _ _ (newExc (.type "StopIteration") [] >>= _) _ _ _
  refine wpAny_bind ?_
  simp only [newExc, newTuple]
  refine wpAny_bind (wpAny_newObj_type ?_ (by size_fits))
  refine wpAny_bind (m := firstArgMember _ _) (wpAny_of_eq (a := Value.none) (by first | rfl | (simp only [firstArgMember]; rfl)) ?_)
  refine wpAny_newObj_type ?_ (by size_fits)
  simp only [raiseNew]
  refine wpAny_bind (wpAny_handled ?_)
  first | rw [show A.in1.handled = none from hh] | rw [hh]
  refine wpAny_bind (wpAny_pure (wpAny_throw ?_))
  exact hE _ _ (((Heap.SameBut.update ..).extBut.push _).push _) ⟨_, Heap.get?_push_size _ rfl, rfl⟩
theorem next_item {e it l : Addr} {i : Nat} {items : Array Value} {x old : Value} {Q : Value → Shared → Prop}
    (he : IsEnum s.heap e it i old) (hit : IsTupIter s.heap it l i) (hl : IsTup s.heap l items) (hx : items[i]? = some x) (hne : e ≠ it)
    (hQ : ∀ h', IsEnumOut h' e it ((i : Int) + 1) x s.heap.objs.size → IsTupIter h' it l (i + 1) →
      h'.get? s.heap.objs.size = some { cls := .type "tuple", data := .seq #[.int i s.toks, x] } → h'.objs.size = s.heap.objs.size + 1 →
      (∀ b o, b ≠ e → b ≠ it → s.heap.get? b = some o → h'.get? b = some o) → Q (.ref s.heap.objs.size) { s with heap := h', toks := s.toks + 1 }) :
    wpAny (model prog w) A (Builtin.«enumerate.__next__» ⟨[.ref e], []⟩) (fun fin s' => ∃ v, fin = .done (.ret v) ∧ Q v s') E s := by
  obtain ⟨hp, g, d, tk, os⟩ := s
  show wpAny _ _ (field (.ref e) 2 >>= _) _ _ _
  refine wpAny_bind (wpAny_field he rfl (x := .ref it) rfl ?_)
  refine wpAny_bind (nextOf_item hit hl hx fun h₁ hit₁ hs₁ => ?_)
  replace hs₁ : Heap.SameBut it hp h₁ := hs₁
  have he₁ : IsEnum h₁ e it i old := (hs₁.2 e hne).trans he
  show wpAny _ _ (field (.ref e) 3 >>= _) _ _ ⟨h₁, g, d, tk, os⟩
  refine wpAny_bind (wpAny_field he₁ rfl (x := rawInt i) rfl ?_)
  show wpAny _ _ (field (.ref e) 4 >>= _) _ _ ⟨h₁, g, d, tk, os⟩
  refine wpAny_bind (wpAny_field he₁ rfl (x := .none) rfl ?_)
  show wpAny _ _ (mkInt i >>= _) _ _ ⟨h₁, g, d, tk, os⟩
  refine wpAny_bind (wpAny_mkInt ?_)
  show wpAny _ _ (setField (.ref e) 3 (rawInt ((i : Int) + 1)) >>= _) _ _ ⟨h₁, g, d, tk + 1, os⟩
  refine wpAny_bind (wpAny_setField_rec he₁ (by simp) fun h₂ he₂ hs₂ => ?_)
  replace hs₂ : Heap.SameBut e h₁ h₂ := hs₂
  replace he₂ : IsEnum h₂ e it ((i : Int) + 1) old := he₂
  show wpAny _ _ (setField (.ref e) 4 .none >>= _) _ _ ⟨h₂, g, d, tk + 1, os⟩
  refine wpAny_bind (wpAny_setField_rec he₂ (by simp) fun h₃ he₃ hs₃ => ?_)
  replace hs₃ : Heap.SameBut e h₂ h₃ := hs₃
  replace he₃ : IsEnum h₃ e it ((i : Int) + 1) old := he₃
  show wpAny _ _ (newTuple [.int i tk, x] >>= _) _ _ ⟨h₃, g, d, tk + 1, os⟩
  refine wpAny_bind (wpAny_newTuple ?_)
  have he₄ : IsEnum (h₃.push { cls := .type "tuple", data := .seq #[.int i tk, x] }) e it ((i : Int) + 1) old := Heap.get?_push_of_some _ he₃
  generalize hh₄ : h₃.push { cls := .type "tuple", data := .seq #[.int i tk, x] } = h₄ at he₄
  have hsz : h₃.objs.size = hp.objs.size := by rw [hs₃.1, hs₂.1, hs₁.1]
  have hel : e < hp.objs.size := Heap.lt_size he
  have ht₄ : h₄.get? hp.objs.size = some { cls := .type "tuple", data := .seq #[.int i tk, x] } := by rw [← hh₄, ← hsz]; exact Heap.get?_push_size _ rfl
  have hz₄ : h₄.objs.size = hp.objs.size + 1 := by rw [← hh₄, Heap.size_push, hsz]
  have hk₄ : ∀ b o, b ≠ e → b ≠ it → hp.get? b = some o → h₄.get? b = some o := fun b o hbe hbi hb => by
    rw [← hh₄]; exact Heap.get?_push_of_some _ (hs₃.extBut b o hbe (hs₂.extBut b o hbe (hs₁.extBut b o hbi hb)))
  have hit₄ : IsTupIter h₄ it l (i + 1) := by
    rw [← hh₄]; obtain ⟨o, ho, r⟩ := (hit₁.extBut hs₂.extBut (Ne.symm hne)).extBut hs₃.extBut (Ne.symm hne); exact ⟨o, Heap.get?_push_of_some _ ho, r⟩
  show wpAny _ _ (Builtin.SmallTypes.ownedTupleIsFree (.ref e) >>= _) _ _ ⟨h₄, g, d, tk + 1, os⟩
  rw [hsz]
  clear hh₄ he₃ hs₃ he₂ hs₂ he₁ hs₁ hit₁ hsz h₃ h₂ h₁
  refine wpAny_bind ?_
  · unfold Builtin.SmallTypes.ownedTupleIsFree
    refine wpAny_bind (wpAny_field he₄ rfl (x := .none) rfl (wpAny_pure ?_))
    simp only [if_true]
    refine wpAny_bind (wpAny_rule ?_)
    refine wpAny_bind (wpAny_field he₄ rfl (x := old) rfl ?_)
    refine wpAny_bind (wpAny_setField_rec he₄ (by simp) fun h₅ he₅ hs₅ => ?_)
    replace hs₅ : Heap.SameBut e h₄ h₅ := hs₅
    replace he₅ : IsEnum h₅ e it ((i : Int) + 1) x := he₅
    show wpAny _ _ (Builtin.SmallTypes.ownedTupleHandOut (.ref e) (.ref hp.objs.size) >>= _) _ _ ⟨h₅, g, d, tk + 1, os⟩
    refine wpAny_bind ?_
    · unfold Builtin.SmallTypes.ownedTupleHandOut
      refine wpAny_bind (wpAny_setField_rec he₅ (by simp) fun h₆ he₆ hs₆ => ?_)
      replace hs₆ : Heap.SameBut e h₅ h₆ := hs₆
      replace he₆ : IsEnumOut h₆ e it ((i : Int) + 1) x hp.objs.size := he₆
      refine wpAny_setField_rec he₆ (by simp) fun h₇ he₇ hs₇ => ?_
      replace hs₇ : Heap.SameBut e h₆ h₇ := hs₇
      replace he₇ : IsEnumOut h₇ e it ((i : Int) + 1) x hp.objs.size := he₇
      refine wpAny_bind (wpAny_letGo (wpAny_pure ⟨_, rfl, hQ h₇ he₇ ?_ ?_ ?_ ?_⟩))
      · exact ((hit₄.extBut hs₅.extBut (Ne.symm hne)).extBut hs₆.extBut (Ne.symm hne)).extBut hs₇.extBut (Ne.symm hne)
      · exact hs₇.extBut _ _ (Nat.ne_of_gt hel) (hs₆.extBut _ _ (Nat.ne_of_gt hel) (hs₅.extBut _ _ (Nat.ne_of_gt hel) ht₄))
      · rw [hs₇.1, hs₆.1, hs₅.1, hz₄]
      · exact fun b o hbe hbi hb => hs₇.extBut b o hbe (hs₆.extBut b o hbe (hs₅.extBut b o hbe (hk₄ b o hbe hbi hb)))
theorem pyNext_item {e it l : Addr} {i : Nat} {items : Array Value} {x old : Value} {Q : Option Value → Shared → Prop}
    (he : IsEnum s.heap e it i old) (hit : IsTupIter s.heap it l i) (hl : IsTup s.heap l items) (hx : items[i]? = some x) (hne : e ≠ it)
    (hQ : ∀ h', IsEnumOut h' e it ((i : Int) + 1) x s.heap.objs.size → IsTupIter h' it l (i + 1) →
      h'.get? s.heap.objs.size = some { cls := .type "tuple", data := .seq #[.int i s.toks, x] } → h'.objs.size = s.heap.objs.size + 1 →
      (∀ b o, b ≠ e → b ≠ it → s.heap.get? b = some o → h'.get? b = some o) → Q (some (.ref s.heap.objs.size)) { s with heap := h', toks := s.toks + 1 }) :
    wpAny (model prog w) A (pyNext (.ref e)) Q E s := by
  have hT : s.TypeIs (.ref e) "enumerate" := ⟨_, he, rfl⟩
  unfold pyNext
  exact wpAny_bind (wpAny_attempt (wpAny_callSpecial?_slot (name := Str.ofString "__next__") hT F.slot_enumerate_next
    (wpAny_call_entry F.slot_enumerate_next hT F.entry_enumerate_next
      (next_item he hit hl hx hne fun h' a b c d k => wpAny_pure (hQ h' a b c d k)) (F.args_enumerate_next_1 _))))
theorem pyNext_end {e it l : Addr} {i : Nat} {items : Array Value} {old : Value} {Q : Option Value → Shared → Prop} (hh : A.handled = none)
    (he : IsEnum s.heap e it i old) (hit : IsTupIter s.heap it l i) (hl : IsTup s.heap l items) (hx : items[i]? = none)
    (hQ : ∀ h', Heap.ExtBut it s.heap h' → Q none { s with heap := h' }) : wpAny (model prog w) A (pyNext (.ref e)) Q E s := by
  have hT : s.TypeIs (.ref e) "enumerate" := ⟨_, he, rfl⟩
  unfold pyNext
  refine wpAny_bind (wpAny_attempt (wpAny_callSpecial?_slot (name := Str.ofString "__next__") hT F.slot_enumerate_next
    (wpAny_call_entry F.slot_enumerate_next hT F.entry_enumerate_next ?_ (F.args_enumerate_next_1 _))))
  show wpAny _ _ (field (.ref e) 2 >>= _) _ _ _
  refine wpAny_bind (wpAny_field he rfl (x := .ref it) rfl ?_)
  refine wpAny_bind (nextOf_end hh hit hl hx fun h' x he' hx' => ?_)
  obtain ⟨o, ho, hc⟩ := hx'
  refine wpAny_bind (wpAny_isInstance (T := "StopIteration") (b := true) ⟨o, ho, hc⟩ isSubtype_stop ?_)
  exact wpAny_pure (hQ _ he')
end
end EvEn
namespace L2
open PySem PySem.Spec PyProof.Rows
/-- the tuple at a as it stands at each turn, each item in a new pair -/
def IteT (K : PySem.W.Frag) (a : Addr) : It :=
  ⟨fun i H => ∃ (xs : List V) (x : V), SqT K H a xs ∧ xs[i]? = some x, fun i H v H' => ∃ T x, v = .ref T ∧ H T = none ∧ H' = upd H T (.tup [.int (i : Nat), x]) ∧ ∀ xs, SqT K H a xs → xs[i]? = some x, fun i H => ∃ xs : List V, SqT K H a xs ∧ xs.length ≤ i⟩
theorem turn_enumT {P : Program} {w : World} {K : PySem.W.Frag} {elts : List Expr} {kk : Nat} {tpos : Pos} (a e it : Addr) :
    Turn P w K (.Tuple elts kk tpos) (IteT K a) [e, it] e (fun i h => (∃ old, IsEnum h e it ((i : Nat) : Int) old) ∧ IsTupIter h it a i ∧ e ≠ it) where
  mem := by simp
  obj := fun i h st b hb => by
    obtain ⟨⟨old, he⟩, ⟨o, ho, hc, hd⟩, _⟩ := st
    have e' : b = e ∨ b = it := by simpa using hb
    rcases e' with z | z
    · rw [z]; exact ⟨_, he, fun v q => nomatch q⟩
    · rw [z]; exact ⟨o, ho, fun v q => by rw [hd] at q; cases q⟩
  keep := fun i h h' st k => let ⟨⟨old, he⟩, ⟨o, ho, r⟩, hne⟩ := st; ⟨⟨old, k e (by simp) _ he⟩, ⟨o, k it (by simp) o ho, r⟩, hne⟩
  item := by
    intro X hP hw hK hc i pins s σ H E I hf st hg
    subst hP hw hK
    obtain ⟨⟨old, he⟩, hit, hne⟩ := st
    obtain ⟨xs, x, hq, hx⟩ := hg
    obtain ⟨its, rv, p, hz⟩ := I.tuple hq
    obtain ⟨u, hu, ru⟩ := rv.get hx
    have hel : e < s.heap.objs.size := Heap.lt_size he
    have hil : it < s.heap.objs.size := by obtain ⟨_, q, _⟩ := hit; exact Heap.lt_size q
    refine EvEn.pyNext_item he hit (show IsTup s.heap a its.toArray from p) (x := u) (by simpa using hu) hne fun h' ho hit' hT hsz hk => ?_
    refine ⟨_, rfl, wpAny_letOwnedTupleGo_enum (s := { s with heap := h', toks := s.toks + 1 }) ho fun h'' he' sb => ?_⟩
    have hT2 : h''.get? s.heap.objs.size = some { cls := .type "tuple", data := .seq #[.int i s.toks, u] } := (sb.2 _ (Nat.ne_of_gt hel)).trans hT
    have new : ObjOk X.prog X.w (upd H s.heap.objs.size (.tup [.int (i : Nat), x])) h'' s.heap.objs.size (.tup [.int (i : Nat), x]) :=
      ⟨by show 2 ≤ sizeLine; decide, [.int i s.toks, u], .cons ⟨_, rfl⟩ (.cons ru .nil), ⟨_, hT2, rfl, _, rfl⟩⟩
    have I1 : Inv X pins σ (upd H s.heap.objs.size (.tup [.int (i : Nat), x])) { s with heap := h'', toks := s.toks + 1 } :=
      I.turnedNew (ch := [e, it]) (fun b ob hb q => (sb.2 b (fun z => hb (by simp [z]))).trans (hk b ob (fun z => hb (by simp [z])) (fun z => hb (by simp [z])) q)) hf (Nat.le_refl _) new
    refine ⟨.ref s.heap.objs.size, _, I1, rfl, ⟨_, x, rfl, I.hok.fresh (Nat.le_refl _), rfl, fun ys hy => by rw [I.tuple_inj hy hq]; exact hx⟩, ⟨⟨u, ?_⟩, hit'.extBut (sb.extBut) (Ne.symm hne), hne⟩, fun b hb => ?_⟩
    · have e1 : ((i + 1 : Nat) : Int) = (i : Int) + 1 := by omega
      rw [e1]; exact he'
    · have hb' : b < s.heap.objs.size := by
        have e' : b = e ∨ b = it := by simpa using hb
        rcases e' with z | z
        · rw [z]; exact hel
        · rw [z]; exact hil
      rw [upd_ne (Nat.ne_of_lt hb')]
      exact (hf b hb).1
  done := by
    intro X hP hw hK hc i pins s σ H E I hf st hg
    subst hP hw hK
    obtain ⟨⟨old, he⟩, hit, hne⟩ := st
    obtain ⟨xs, hq, hx⟩ := hg
    obtain ⟨its, rv, p, hz⟩ := I.tuple hq
    obtain ⟨f0, f1, f2, f3, f4, f5⟩ := hf it (by simp)
    have hl := rv.length
    exact EvEn.pyNext_end (I.ok.hd hc) he hit (show IsTup s.heap a its.toArray from p) (by simp; omega) fun h' eb => ⟨rfl, I.turned (t' := s.toks) (fun b o hb q => eb b o hb q) f0 f1 f3 f4 f5⟩
  self := fun A i s Q E st h => let ⟨⟨_, he⟩, _⟩ := st; wpAny_pyIter_enum he h
/-- a list or a tuple -/
def iEnumE (K : PySem.W.Frag) (ta : TA) : TI := fun σ H R => ta σ H fun vs H1 => ∃ a, vs = [.ref a] ∧ ((∃ xs, SqL K H1 a xs ∧ R (Ite K a) H1) ∨ (∃ xs, SqT K H1 a xs ∧ R (IteT K a) H1))
theorem pi_enumE {X : Cx} {e : Expr} {ta : TA} {p pos tpos : Pos} {elts : List Expr} {kk : Nat} (hg : Gl X "enumerate") (hm : X.mg "enumerate" = none) (ha : PA X [e] ta) (hs : starEach [e] X.env = [(false, eval e X.env)] := by rfl) :
    PI X (.Tuple elts kk tpos) (.Call (.Name "enumerate" p) [e] [] pos) (iEnumE X.K ta) := by
  refine ⟨fun pins s σ H R I h => ?_⟩
  refine Call_ (ld_blt I hg hm boot_enumerate (PyProof.Rows.callWith_type1 (thn (ha.run pos pins s σ H _ I h) fun us s1 ⟨vs, H1, I1, r1, q1⟩ => ?_) hs rfl))
  obtain ⟨a, ex, q1⟩ := q1
  subst ex
  cases r1 with
  | cons r rr =>
    cases rr
    cases r
    rcases q1 with ⟨xs, hq, q⟩ | ⟨xs, hq, q⟩
    · obtain ⟨its, rv, p', hz⟩ := I1.list hq
      refine call_enumerate_list p'.isList fun h' he hit hsz hk => wpAny_pyIter_enum he ?_
      have I2 : Inv X pins σ H1 { s1 with heap := h' } := I1.kept (t' := s1.toks) hk
      refine ⟨s1.heap.objs.size + 1, [s1.heap.objs.size + 1, s1.heap.objs.size], _, _, H1, rfl, I2, turn_enum a (s1.heap.objs.size + 1) s1.heap.objs.size, ⟨⟨.none, he⟩, hit, Nat.succ_ne_self _⟩, fun b hb => ?_, q⟩
      have e' : b = s1.heap.objs.size + 1 ∨ b = s1.heap.objs.size := by simpa using hb
      have hle : s1.heap.objs.size ≤ b := by
        rcases e' with z | z
        · rw [z]; exact Nat.le_add_right _ _
        · rw [z]; exact Nat.le_refl _
      exact I1.fpOk hle (I1.hok.fresh hle)
    · obtain ⟨its, rv, p', hz⟩ := I1.tuple hq
      refine EvEn.call_enumT (show IsTup s1.heap a its.toArray from p') fun h' he hit hsz hk => wpAny_pyIter_enum he ?_
      have I2 : Inv X pins σ H1 { s1 with heap := h' } := I1.kept (t' := s1.toks) hk
      refine ⟨s1.heap.objs.size + 1, [s1.heap.objs.size + 1, s1.heap.objs.size], _, _, H1, rfl, I2, turn_enumT a (s1.heap.objs.size + 1) s1.heap.objs.size, ⟨⟨.none, he⟩, hit, Nat.succ_ne_self _⟩, fun b hb => ?_, q⟩
      have e' : b = s1.heap.objs.size + 1 ∨ b = s1.heap.objs.size := by simpa using hb
      have hle : s1.heap.objs.size ≤ b := by
        rcases e' with z | z
        · rw [z]; exact Nat.le_add_right _ _
        · rw [z]; exact Nat.le_refl _
      exact I1.fpOk hle (I1.hok.fresh hle)
end L2
/-! What is walked; comprehensions. -/
namespace Ev
open PySem PySem.Spec PyProof.Rows L2

def Mine (σ : Sg) (r : Rho) (p : Addr) : Prop := ∃ (i : Nat) (o : Ob), r[i]? = some (some (.own o true)) ∧ σ[i]? = some (some (.ref p))
structure Stq (σ : Sg) (r : Rho) (H : Hp) (σ' : Sg) (r' : Rho) (H' : Hp) : Prop where
  keep : ∀ p o, H p = some o → ¬ Own σ r p → H' p = some o
  live : ∀ p, lvl (H p) ≤ lvl (H' p)
  own : ∀ p, Own σ' r' p → Own σ r p ∨ H p = none
  lent : ∀ (i : Nat) (o : Ob), r'[i]? = some (some (.own o false)) → (∃ o', r[i]? = some (some (.own o' false))) ∧ σ'[i]? = σ[i]?
  mine : ∀ p, Mine σ' r' p → Mine σ r p ∨ H p = none
theorem Stq.refl {σ : Sg} {r : Rho} {H : Hp} : Stq σ r H σ r H := ⟨fun _ _ h _ => h, fun _ => Nat.le_refl _, fun _ h => .inl h, fun _ o h => ⟨⟨o, h⟩, rfl⟩, fun _ h => .inl h⟩
theorem Stq.none {σ : Sg} {r : Rho} {H : Hp} {σ' : Sg} {r' : Rho} {H' : Hp} (a : Stq σ r H σ' r' H') {p : Addr} (h : H' p = Option.none) : H p = Option.none := by
  have := a.live p
  rw [h] at this
  exact lvl_none (Nat.le_zero.mp this)
theorem Stq.trans {σ σ1 σ2 : Sg} {r r1 r2 : Rho} {H H1 H2 : Hp} (a : Stq σ r H σ1 r1 H1) (b : Stq σ1 r1 H1 σ2 r2 H2) : Stq σ r H σ2 r2 H2 where
  keep := fun p o h n => b.keep p o (a.keep p o h n) fun z => (a.own p z).elim n fun z => by rw [h] at z; cases z
  live := fun p => Nat.le_trans (a.live p) (b.live p)
  own := fun p h => (b.own p h).elim (a.own p) fun z => .inr (a.none z)
  lent := fun i o h => let ⟨⟨o', h1⟩, e1⟩ := b.lent i o h; let ⟨h2, e2⟩ := a.lent i o' h1; ⟨h2, e1.trans e2⟩
  mine := fun p h => (b.mine p h).elim (a.mine p) fun z => .inr (a.none z)
theorem Stp.q {σ : Sg} {r r' : Rho} {H H' : Hp} (s : Stp σ r r' H H') : Stq σ r H σ r' H' where
  keep := s.keep
  live := s.live
  own := fun p h => .inl (s.own p h)
  lent := fun i o h => ⟨s.slot i o false h, rfl⟩
  mine := fun p ⟨i, o, h1, h2⟩ => let ⟨o', h3⟩ := s.slot i o true h1; .inl ⟨i, o', h3, h2⟩
section
variable {K : PySem.W.Frag} {A A' : Addr → Prop} {σ σ' : Sg} {r r' : Rho} {H H' : Hp}
theorem Stq.k1 (s : Stq σ r H σ' r' H') : ∀ p o, H p = some o → ¬ Av A σ r p → H' p = some o := fun p o e n => s.keep p o e fun z => n (.inr z)
theorem Stq.k2 (s : Stq σ r H σ' r' H') (hA : ∀ p, A' p → A p ∨ H p = Option.none) : ∀ p, Av A' σ' r' p → Av A σ r p ∨ H p = Option.none := fun p z => z.elim (fun z => (hA p z).imp .inl id) fun z => (s.own p z).imp .inr id

/-! ### a name is set -/
theorem Rl.put {i : Nat} {v : V} {x : D} (R : Rl K A σ H r) (rx : Rep (Av A σ r) H v x) : Rl K A (σ.set i (some v)) H (r.set i (some (.d x))) ∧ Stq σ r H (σ.set i (some v)) (r.set i (some (.d x))) H ∧ (∀ p, Own (σ.set i (some v)) (r.set i (some (.d x))) p → Own σ r p) := by
  have slot : ∀ (j : Nat) (o : Ob) (m : Bool), (r.set i (some (.d x)))[j]? = some (some (.own o m)) → i ≠ j ∧ r[j]? = some (some (.own o m)) ∧ (σ.set i (some v))[j]? = σ[j]? := fun j o m h => by
    rw [List.getElem?_set] at h
    split at h
    · split at h <;> cases h
    · rename_i ne
      exact ⟨ne, h, List.getElem?_set_ne ne⟩
  have own : ∀ p, Own (σ.set i (some v)) (r.set i (some (.d x))) p → Own σ r p := fun p ⟨j, o, m, h1, h2⟩ => by
    obtain ⟨_, h3, h4⟩ := slot j o m h1
    rw [h4] at h2
    exact ⟨j, o, m, h3, h2⟩
  have sub : ∀ p, Av A (σ.set i (some v)) (r.set i (some (.d x))) p → Av A σ r p := fun p z => z.imp id (own p)
  refine ⟨⟨by rw [List.length_set, List.length_set]; exact R.len, fun j y h => ?_, fun j o m h => ?_, fun j y h => ?_, fun j j' o m o' m' p h1 h2 h3 h4 => ?_, R.al⟩,
    ⟨fun _ _ h _ => h, fun _ => Nat.le_refl _, fun p h => .inl (own p h), fun j o h => let ⟨_, h3, h4⟩ := slot j o false h; ⟨⟨o, h3⟩, h4⟩, fun p ⟨j, o, h1, h2⟩ => ?_⟩, own⟩
  · by_cases e : i = j
    · subst e
      by_cases hl : i < r.length
      · rw [List.getElem?_set_self hl] at h
        cases h
        exact ⟨v, List.getElem?_set_self (by rw [R.len]; exact hl), rx.mono sub⟩
      · rw [List.getElem?_eq_none (by rw [List.length_set]; omega)] at h
        cases h
    · rw [List.getElem?_set_ne e] at h
      obtain ⟨u, h1, h2⟩ := R.d j y h
      exact ⟨u, by rw [List.getElem?_set_ne e]; exact h1, h2.mono sub⟩
  · obtain ⟨_, h3, h4⟩ := slot j o m h
    obtain ⟨p, h5, h6, h7⟩ := R.own j o m h3
    exact ⟨p, by rw [h4]; exact h5, h6.mono sub, h7⟩
  · have h3 : i ≠ j ∧ r[j]? = some (some (.ro y)) := by
      rw [List.getElem?_set] at h
      split at h
      · split at h <;> cases h
      · rename_i ne
        exact ⟨ne, h⟩
    obtain ⟨u, h1, h2⟩ := R.ro j y h3.2
    exact ⟨u, by rw [List.getElem?_set_ne h3.1]; exact h1, h2.mono sub⟩
  · obtain ⟨_, h5, h6⟩ := slot j o m h1
    obtain ⟨_, h7, h8⟩ := slot j' o' m' h2
    rw [h6] at h3
    rw [h8] at h4
    exact R.inj j j' o m o' m' p h5 h7 h3 h4
  · obtain ⟨_, h3, h4⟩ := slot j o true h1
    rw [h4] at h2
    exact .inl ⟨j, o, h3, h2⟩
def gT (K : PySem.W.Frag) : Tg → TG
  | .one i => gName i
  | .two i j => gTup K 2 (gCons (gName i) (gCons (gName j) gNil))
theorem setT_ok {tg : Tg} {v : V} {x : D} {r1 : Rho} (R : Rl K A σ H r) (rx : Rep (Av A σ r) H v x) (e : setT tg x r = some r1) : ∃ σ1, (∀ Q : Sg → Hp → Prop, Q σ1 H → gT K tg v σ H Q) ∧ Rl K A σ1 H r1 ∧ Stq σ r H σ1 r1 H ∧ (∀ i, i ∉ tg.slots → σ1[i]? = σ[i]? ∧ r1[i]? = r[i]?) ∧
    (∀ p, Own σ1 r1 p → Own σ r p) ∧ (∀ i ∈ tg.slots, ∀ (o : Ob) (m : Bool), r1[i]? ≠ some (some (.own o m))) := by
  cases tg with
  | one i =>
    cases e
    obtain ⟨h1, h2, h3⟩ := R.put (i := i) rx
    refine ⟨_, fun Q q => q, h1, h2, fun j hj => ?_, h3, fun j hj o m z => ?_⟩
    · have ne : i ≠ j := fun z => hj (by rw [z]; exact List.mem_singleton.mpr rfl)
      exact ⟨List.getElem?_set_ne ne, List.getElem?_set_ne ne⟩
    · have e : j = i := by simpa [Tg.slots] using hj
      subst e
      rw [List.getElem?_set] at z
      rw [if_pos rfl] at z
      split at z <;> cases z
  | two i j =>
    cases x with
    | tuple xs =>
      match xs, rx, e with
      | [a, b], rx, e =>
        cases e
        cases rx with
        | tup na hp rl =>
          rename_i p vs
          cases rl with
          | cons ra rl =>
            cases rl with
            | cons rb rl =>
              cases rl
              rename_i u w
              obtain ⟨h1, h2, h3⟩ := R.put (i := i) ra
              obtain ⟨g1, g2, g3⟩ := h1.put (i := j) (rb.mono fun q z => z.imp id (h3 q))
              refine ⟨_, fun Q q => ⟨p, [u, w], rfl, .of hp, rfl, u, [w], rfl, w, [], rfl, rfl, q⟩, g1, h2.trans g2, fun l hl => ?_, fun q z => h3 q (g3 q z), fun l hl o m z => ?_⟩
              · have n1 : i ≠ l := fun z => hl (by rw [z]; simp [Tg.slots])
                have n2 : j ≠ l := fun z => hl (by rw [z]; simp [Tg.slots])
                exact ⟨by rw [List.getElem?_set_ne n2, List.getElem?_set_ne n1], by rw [List.getElem?_set_ne n2, List.getElem?_set_ne n1]⟩
              · have e : l = i ∨ l = j := by simpa [Tg.slots] using hl
                rw [List.getElem?_set] at z
                split at z
                · split at z <;> cases z
                · rename_i nj
                  rcases e with e | e
                  · subst e
                    rw [List.getElem?_set, if_pos rfl] at z
                    split at z <;> cases z
                  · exact nj e.symm
      | [], rx, e => cases e
      | [_], rx, e => cases e
      | _ :: _ :: _ :: _, rx, e => cases e
    | _ => cases e

/-! ### what is walked -/
def Wk (K : PySem.W.Frag) (xs : List D) (c : Option (Nat × D)) (J : L2.It) (A : Addr → Prop) (σ : Sg) (r : Rho) (H : Hp) : Prop :=
  ∀ (A' : Addr → Prop) (σ' : Sg) (r' : Rho) (H' : Hp), Stq σ r H σ' r' H' → (∀ p, A' p → A p ∨ H p = none) → Rl K A' σ' H' r' → stands c r' = true → (∀ i d, c = some (i, d) → σ'[i]? = σ[i]?) →
    ∀ n : Nat, (∀ d, xs[n]? = some d → J.go n H' ∧ ∀ x H'', J.yld n H' x H'' → (∀ p o, H' p = some o → H'' p = some o) ∧ Rep (Av A' σ' r') H'' x d) ∧ (xs.length ≤ n → J.stop n H')
theorem wk_list {p : Addr} {vs : List V} {xs : List D} (hp : H p = some (.lst vs)) (no : ¬ Own σ r p) (rl : RepL (Av A σ r) H vs xs) : Wk K xs none (Itl K p) A σ r H := by
  intro A' σ' r' H' st hA R' _ _ n
  have h' := st.keep p _ hp no
  have rl' : RepL (Av A' σ' r') H' vs xs := rl.step st.k1 (st.k2 hA)
  refine ⟨fun d e => ?_, fun hl => ⟨vs, .of h', by rw [rl.length]; exact hl⟩⟩
  obtain ⟨v, h1, h2⟩ := rl'.get e
  refine ⟨⟨vs, v, .of h', h1⟩, fun x H'' ⟨e1, e2⟩ => ?_⟩
  subst e1
  have e3 := e2 vs (.of h')
  rw [h1] at e3
  cases e3
  exact ⟨fun _ _ h => h, h2⟩
theorem wk_tup {p : Addr} {vs : List V} {xs : List D} (hp : H p = some (.tup vs)) (no : ¬ Own σ r p) (rl : RepL (Av A σ r) H vs xs) : Wk K xs none (Itt K p) A σ r H := by
  intro A' σ' r' H' st hA R' _ _ n
  have h' := st.keep p _ hp no
  have rl' : RepL (Av A' σ' r') H' vs xs := rl.step st.k1 (st.k2 hA)
  refine ⟨fun d e => ?_, fun hl => ⟨vs, .of h', by rw [rl.length]; exact hl⟩⟩
  obtain ⟨v, h1, h2⟩ := rl'.get e
  refine ⟨⟨vs, v, .of h', h1⟩, fun x H'' ⟨e1, e2⟩ => ?_⟩
  subst e1
  have e3 := e2 vs (.of h')
  rw [h1] at e3
  cases e3
  exact ⟨fun _ _ h => h, h2⟩
theorem wk_own {p : Addr} {i : Nat} {xs : List D} (es : σ[i]? = some (some (.ref p))) : Wk K xs (some (i, .list xs)) (Itl K p) A σ r H := by
  intro A' σ' r' H' st hA R' hs hσ n
  have hs : (match r'[i]? with
    | some (some (.own o _)) => sameD (obD o) (.list xs)
    | _ => false) = true := hs
  split at hs
  · rename_i o m e
    have eo := sameD_eq _ _ hs
    obtain ⟨p', q1, q2, _⟩ := R'.own i o m e
    rw [hσ i _ rfl, es] at q1
    cases q1
    cases o with
    | dk kvs => cases eo
    | dt kvs => cases eo
    | lst ys =>
      cases eo
      obtain ⟨vs, h', rl'⟩ := q2
      refine ⟨fun d e => ?_, fun hl => ⟨vs, .of h', by rw [rl'.length]; exact hl⟩⟩
      obtain ⟨v, h1, h2⟩ := rl'.get e
      refine ⟨⟨vs, v, .of h', h1⟩, fun x H'' ⟨e1, e2⟩ => ?_⟩
      subst e1
      have e3 := e2 vs (.of h')
      rw [h1] at e3
      cases e3
      exact ⟨fun _ _ h => h, h2⟩
  · cases hs
theorem enumL_get : ∀ (xs : List D) (k n : Nat), (enumL k xs)[n]? = (xs[n]?).map fun d => .tuple [.int (((k + n : Nat)) : Int), d]
  | [], k, n => by simp [enumL]
  | x :: xs, k, n => by
    cases n with
    | zero => simp [enumL]
    | succ n =>
      have e : (enumL k (x :: xs))[n + 1]? = (enumL (k + 1) xs)[n]? := by simp [enumL]
      rw [e, enumL_get xs (k + 1) n]
      have e2 : k + 1 + n = k + (n + 1) := by omega
      rw [e2]
      simp
theorem enumL_len : ∀ (xs : List D) (k : Nat), (enumL k xs).length = xs.length
  | [], k => rfl
  | x :: xs, k => by simp [enumL, enumL_len xs (k + 1)]
theorem wk_enum {p : Addr} {xs : List D} {c : Option (Nat × D)} (w : Wk K xs c (Itl K p) A σ r H) : Wk K (enumL 0 xs) c (Ite K p) A σ r H := by
  intro A' σ' r' H' st hA R' hs hσ n
  obtain ⟨h1, h2⟩ := w A' σ' r' H' st hA R' hs hσ n
  refine ⟨fun d e => ?_, fun hl => ?_⟩
  · rw [enumL_get] at e
    cases e1 : xs[n]? with
    | none => rw [e1] at e; cases e
    | some d0 =>
      rw [e1] at e
      cases e
      obtain ⟨⟨ys, x, hq, hx⟩, h4⟩ := h1 d0 e1
      refine ⟨⟨ys, x, hq, hx⟩, fun v H'' ⟨T, x', e2, hT, e3, e4⟩ => ?_⟩
      subst e2 e3
      obtain ⟨_, h5⟩ := h4 x' H' ⟨rfl, e4⟩
      refine ⟨Ev.grow hT, .tup (R'.av.na hT) upd_same (.cons ?_ (.cons (h5.step (fun q u z _ => Ev.grow hT q u z) fun q z => .inl z) .nil))⟩
      rw [Nat.zero_add]
      exact .int _
  · rw [enumL_len] at hl
    exact h2 hl
theorem wk_enumT {p : Addr} {xs : List D} {c : Option (Nat × D)} (w : Wk K xs c (Itt K p) A σ r H) : Wk K (enumL 0 xs) c (IteT K p) A σ r H := by
  intro A' σ' r' H' st hA R' hs hσ n
  obtain ⟨h1, h2⟩ := w A' σ' r' H' st hA R' hs hσ n
  refine ⟨fun d e => ?_, fun hl => ?_⟩
  · rw [enumL_get] at e
    cases e1 : xs[n]? with
    | none => rw [e1] at e; cases e
    | some d0 =>
      rw [e1] at e
      cases e
      obtain ⟨⟨ys, x, hq, hx⟩, h4⟩ := h1 d0 e1
      refine ⟨⟨ys, x, hq, hx⟩, fun v H'' ⟨T, x', e2, hT, e3, e4⟩ => ?_⟩
      subst e2 e3
      obtain ⟨_, h5⟩ := h4 x' H' ⟨rfl, e4⟩
      refine ⟨Ev.grow hT, .tup (R'.av.na hT) upd_same (.cons ?_ (.cons (h5.step (fun q u z _ => Ev.grow hT q u z) fun q z => .inl z) .nil))⟩
      rw [Nat.zero_add]
      exact .int _
  · rw [enumL_len] at hl
    exact h2 hl
theorem rangeL_get {a b : Int} {n : Nat} : (rangeL a b)[n]? = if n < (b - a).toNat then some (.int (a + n)) else none := by
  unfold rangeL
  rw [List.getElem?_map]
  by_cases h : n < (b - a).toNat
  · rw [if_pos h, List.getElem?_range h]
    rfl
  · rw [if_neg h, List.getElem?_eq_none (by simpa using h)]
    rfl
theorem rangeL_len {a b : Int} : (rangeL a b).length = (b - a).toNat := by simp [rangeL]
theorem wk_range {a b : Int} : Wk K (rangeL a b) none (Itr a (b - a).toNat) A σ r H := by
  intro A' σ' r' H' st hA R' hs hσ n
  refine ⟨fun d e => ?_, fun hl => by rw [rangeL_len] at hl; exact hl⟩
  rw [rangeL_get] at e
  split at e
  · rename_i hn
    cases e
    refine ⟨hn, fun x H'' ⟨e1, e2⟩ => ?_⟩
    subst e1 e2
    exact ⟨fun _ _ h => h, .int _⟩
  · cases e
end

section
variable {G : Cg} {cl : ClsT} {W : WX} {φ : Phi} {s : Sc} {X : Cx}
def PostI (K : PySem.W.Frag) (cl : ClsT) (W : WX) (A : Addr → Prop) (σ : Sg) (r : Rho) (H : Hp) (Rr : L2.It → Hp → Prop) : R (List D × Option (Nat × D)) → Prop
  | .ok q r' => ∀ J A' H', (∀ p, A p → A' p) → (∀ p, A' p → A p ∨ H p = none) → Stp σ r r' H H' → Rl K A' σ H' r' → Wk K q.1 q.2 J A' σ r' H' → Rr J H'
  | .exc c fs r' => PostX K cl W A σ r H c fs r'
  | .stuck => False
def tIv (K : PySem.W.Frag) (cl : ClsT) (W : WX) (ev : Rho → R (List D × Option (Nat × D))) : TI := fun σ H Rr => ∃ A r, Rl K A σ H r ∧ PostI K cl W A σ r H Rr (ev r)
/-- a list or a tuple -/
def iSeq (K : PySem.W.Frag) (tl : TE) : TI := fun σ H R => tl σ H fun x H1 => ∃ a, x = .ref a ∧ (((∃ xs, SqL K H1 a xs) ∧ R (Itl K a) H1) ∨ ((∃ xs, SqT K H1 a xs) ∧ R (Itt K a) H1))
theorem pi_seq {tg l : Expr} {tl : TE} (hl : PE X l tl) : PI X tg l (iSeq X.K tl) := by
  refine ⟨fun pins s σ H R I h => ?_⟩
  refine thn (hl.run pins s σ H _ I h) fun v s1 ⟨x, H1, I1, r1, q1⟩ => ?_
  obtain ⟨a, e, q⟩ := q1
  subst e
  cases r1
  rcases q with ⟨⟨xs, hq⟩, q⟩ | ⟨⟨xs, hq⟩, q⟩
  · obtain ⟨its, rv, p, hz⟩ := I1.list hq
    refine wpAny_pyIter_list p.isList ?_
    refine ⟨s1.heap.objs.size, [s1.heap.objs.size], _, _, H1, rfl, I1.kept (t' := s1.toks) fun b o e => Heap.get?_push_of_some _ e, turn_list a _, ⟨_, Heap.get?_push_size _ rfl, rfl, rfl⟩, fun b hb => ?_, q⟩
    have e : b = s1.heap.objs.size := by simpa using hb
    subst e
    exact I1.fpOk (Nat.le_refl _) (I1.hok.fresh (Nat.le_refl _))
  · obtain ⟨its, rv, p, hz⟩ := I1.tuple hq
    refine wpAny_pyIter_tuple (show s1.heap.IsTuple a its.toArray from p) ?_
    refine ⟨s1.heap.objs.size, [s1.heap.objs.size], _, _, H1, rfl, I1.kept (t' := s1.toks) fun b o e => Heap.get?_push_of_some _ e, turn_tuple a _, ⟨_, Heap.get?_push_size _ rfl, rfl, rfl⟩, fun b hb => ?_, q⟩
    have e : b = s1.heap.objs.size := by simpa using hb
    subst e
    exact I1.fpOk (Nat.le_refl _) (I1.hok.fresh (Nat.le_refl _))
/-- what a value's walk is -/
theorem walk_of {K : PySem.W.Frag} {A : Addr → Prop} {σ : Sg} {r : Rho} {H : Hp} {x : AV} {v : V} {d : D} {xs : List D} (R : Rl K A σ H r) (q : HV K A σ H r v x) (e1 : rd r x = some d) (e2 : itemsD d = some xs) :
    ∃ p, v = .ref p ∧ ((∃ ys, d = .list ys ∧ (∃ vs, SqL K H p vs) ∧ Wk K xs (walked r x) (Itl K p) A σ r H) ∨ (∃ ys, d = .tuple ys ∧ (∃ vs, SqT K H p vs) ∧ Wk K xs (walked r x) (Itt K p) A σ r H)) := by
  have wn : ∀ {i : Nat} {y : D}, r[i]? = some (some (.d y)) → walked r (.var i) = none := fun {i y} h => by
    show (match r[i]? with
      | some (some (.own o _)) => some (i, obD o)
      | _ => none) = none
    rw [h]
  have go : ∀ {p : Addr} {ys : List D}, v = .ref p → walked r x = none → Rep (Av A σ r) H v d → ∃ p, v = .ref p ∧ ((∃ ys, d = .list ys ∧ (∃ vs, SqL K H p vs) ∧ Wk K xs (walked r x) (Itl K p) A σ r H) ∨ (∃ ys, d = .tuple ys ∧ (∃ vs, SqT K H p vs) ∧ Wk K xs (walked r x) (Itt K p) A σ r H)) := fun {p ys} e3 e4 rx => by
    rw [e4]
    cases rx with
    | lst na h rl => cases e2; exact ⟨_, rfl, .inl ⟨_, rfl, ⟨_, .of h⟩, wk_list h (fun z => na (.inr z)) rl⟩⟩
    | tup na h rl => cases e2; exact ⟨_, rfl, .inr ⟨_, rfl, ⟨_, .of h⟩, wk_tup h (fun z => na (.inr z)) rl⟩⟩
    | _ => cases e2
  have isr : Rep (Av A σ r) H v d → ∃ p, v = .ref p := fun rx => by
    cases rx with
    | lst _ _ _ => exact ⟨_, rfl⟩
    | tup _ _ _ => exact ⟨_, rfl⟩
    | _ => cases e2
  match x, q with
  | .d y false, q =>
    cases e1
    have q : Rep (Av A σ r) H v d := q
    obtain ⟨p, e3⟩ := isr q
    exact go (p := p) (ys := []) e3 rfl q
  | .d y true, ⟨p, e3, ap, no, o⟩ =>
    cases e1
    cases d with
    | list ys =>
      cases e2
      obtain ⟨vs, h, rl⟩ := o
      exact ⟨p, e3, .inl ⟨_, rfl, ⟨vs, .of h⟩, wk_list h no rl⟩⟩
    | tuple ys => exact o.elim
    | _ => cases e2
  | .cst y, q => cases e1
  | .var i, q =>
    have q : σ[i]? = some (some v) := q
    have e1' : (match r[i]? with
      | some (some (.d x)) => some x
      | some (some (.own o _)) => obR o
      | _ => none) = some d := e1
    split at e1'
    · rename_i y hy
      cases e1'
      obtain ⟨u, h1, h2⟩ := R.d i _ hy
      rw [q] at h1
      cases h1
      obtain ⟨p, e3⟩ := isr h2
      exact go (p := p) (ys := []) e3 (wn hy) h2
    · rename_i o m hy
      obtain ⟨p, h1, h2, _⟩ := R.own i _ _ hy
      rw [q] at h1
      cases h1
      have ew : walked r (.var i) = some (i, obD o) := by
        show (match r[i]? with
          | some (some (.own o _)) => some (i, obD o)
          | _ => none) = _
        rw [hy]
      rw [ew]
      cases o with
      | lst ys =>
        cases e1'
        cases e2
        obtain ⟨vs, h3, _⟩ := h2
        exact ⟨p, rfl, .inl ⟨xs, rfl, ⟨vs, .of h3⟩, wk_own q⟩⟩
      | dk kvs => cases e1'; cases e2
      | dt kvs => cases e1'
    · cases e1'
theorem si_seq {tg l : Expr} {e : E} (ha : Snd X cl W l (evP φ e)) : PI X tg l (tIv X.K cl W (evIt φ (.seq e))) := by
  refine PI.imp' (pi_seq ha.1) ?_
  rintro σ H Rr ⟨A, r, R, h⟩
  refine ⟨A, r, R, ?_⟩
  have h : PostI X.K cl W A σ r H Rr (((evP φ e).1 r).bind fun x r1 => walkV x r1) := h
  generalize (evP φ e).1 r = ra at h ⊢
  cases ra with
  | stuck => exact h
  | exc c fs r' => exact h
  | ok x r1 =>
    intro v H1 ok
    obtain ⟨A1, h1, g1, s1, R1, q1⟩ := ok.hold
    have h : PostI X.K cl W A σ r H Rr (walkV x r1) := h
    unfold walkV at h
    cases e1 : rd r1 x with
    | none => rw [e1] at h; exact h.elim
    | some d =>
      cases e2 : itemsD d with
      | none =>
        rw [e1] at h
        simp only [Option.bind, e2] at h
        exact h.elim
      | some xs =>
        rw [e1] at h
        simp only [Option.bind, e2] at h
        obtain ⟨p, e3, w⟩ := walk_of R1 q1 e1 e2
        refine ⟨p, e3, ?_⟩
        rcases w with ⟨ys, _, hs, w⟩ | ⟨ys, _, hs, w⟩
        · exact .inl ⟨hs, h _ A1 H1 h1 g1 s1 R1 w⟩
        · exact .inr ⟨hs, h _ A1 H1 h1 g1 s1 R1 w⟩
end
end Ev
/-! Ranges, enumerate, comprehensions; every expression keeps what it computes. -/
namespace Ev
open PySem PySem.Spec PyProof.Rows L2
section
variable {G : Cg} {cl : ClsT} {W : WX} {φ : Phi} {s : Sc} {X : Cx}
theorem hv_int {K : PySem.W.Frag} {A : Addr → Prop} {σ : Sg} {r : Rho} {H : Hp} {v : V} {i : Int} {f : Bool} (q : HV K A σ H r v (.d (.int i) f)) : v = .int i := by
  cases f with
  | false =>
    have q : Rep (Av A σ r) H v (.int i) := q
    cases q
    rfl
  | true =>
    obtain ⟨p, _, _, _, o⟩ := q
    exact o.elim
theorem okI_of {i : Int} (h : okI i = true) : -(2 ^ 62) ≤ i ∧ i < 2 ^ 62 := by
  have h1 := of_decide_eq_true h
  omega
theorem datAV_1 {as : List AV} {x : D} (h : datAV as = some [x]) : ∃ f, as = [.d x f] := by
  match as, h with
  | [.d y f], h => cases h; exact ⟨f, rfl⟩
  | [], h => cases h
  | .var _ :: _, h => cases h
  | .cst _ :: _, h => cases h
  | .d y f :: .var _ :: _, h => cases h
  | .d y f :: .cst _ :: _, h => cases h
  | .d y f :: .d z g :: r, h =>
    have h : ((datAV r).map (z :: ·)).map (y :: ·) = some [x] := h
    cases e : datAV r with
    | none => rw [e] at h; cases h
    | some ys => rw [e] at h; cases h
theorem datAV_2 {as : List AV} {x y : D} (h : datAV as = some [x, y]) : ∃ f g, as = [.d x f, .d y g] := by
  match as, h with
  | [], h => cases h
  | .var _ :: _, h => cases h
  | .cst _ :: _, h => cases h
  | .d z f :: r, h =>
    have h : (datAV r).map (z :: ·) = some [x, y] := h
    cases e : datAV r with
    | none => rw [e] at h; cases h
    | some ys =>
      rw [e] at h
      cases h
      obtain ⟨g, rfl⟩ := datAV_1 e
      exact ⟨f, g, rfl⟩
/-- the lists that a range gives -/
theorem rangeV_ok {as : List AV} {r : Rho} {K : PySem.W.Frag} {A : Addr → Prop} {σ : Sg} {r0 : Rho} {H : Hp} {Rr : L2.It → Hp → Prop} (h : PostI K cl W A σ r0 H Rr (rangeV as r)) : ∃ ds xs, datAV as = some ds ∧ rangeD ds = some xs ∧ rangeV as r = .ok (xs, none) r := by
  unfold rangeV at h ⊢
  cases e : datAV as with
  | none => rw [e] at h; exact h.elim
  | some ds =>
    rw [e] at h
    cases e2 : rangeD ds with
    | none => simp only [Option.bind, e2] at h; exact h.elim
    | some xs => exact ⟨ds, xs, rfl, e2, by simp only [Option.bind, e2]⟩
theorem ti_range {es : Es} {σ : Sg} {H : Hp} {Rr : L2.It → Hp → Prop} {K : PySem.W.Frag} (h : tIv K cl W (evIt φ (.range es)) σ H Rr) : tAv K cl W (evAs φ es) σ H fun vs H1 => (∃ b, vs = [.int b] ∧ okI b = true ∧ Rr (Itr 0 (b - 0).toNat) H1) ∨ (∃ a b, vs = [.int a, .int b] ∧ okI a = true ∧ okI b = true ∧ Rr (Itr a (b - a).toNat) H1) ∨ vs.length = 3 := by
  obtain ⟨A, r, R, h⟩ := h
  refine ⟨A, r, R, ?_⟩
  have h : PostI K cl W A σ r H Rr ((evAs φ es r).bind fun as r1 => rangeV as r1) := h
  generalize evAs φ es r = ra at h ⊢
  cases ra with
  | stuck => exact h
  | exc c fs r' => exact h
  | ok as r1 =>
    intro vs H1 s1 R1 q1
    have h : PostI K cl W A σ r H Rr (rangeV as r1) := h
    obtain ⟨ds, xs, e1, e2, e3⟩ := rangeV_ok h
    rw [e3] at h
    match ds, e2, e1 with
    | [.int b], e2, e1 =>
      obtain ⟨f, rfl⟩ := datAV_1 e1
      cases q1 with
      | cons q1 q2 =>
        cases q2
        have e2 : (if okI b then some (rangeL 0 b) else none) = some xs := e2
        split at e2
        · rename_i c
          cases e2
          exact .inl ⟨b, by rw [hv_int q1], c, h _ A H1 (fun _ z => z) (fun _ z => .inl z) s1 R1 wk_range⟩
        · cases e2
    | [.int a, .int b], e2, e1 =>
      obtain ⟨f, g, rfl⟩ := datAV_2 e1
      cases q1 with
      | cons q1 q2 =>
        cases q2 with
        | cons q2 q3 =>
          cases q3
          have e2 : (if okI a && okI b && decide ((b - a).toNat ≤ line) then some (rangeL a b) else none) = some xs := e2
          split at e2
          · rename_i c
            cases e2
            rw [Bool.and_eq_true, Bool.and_eq_true] at c
            exact .inr (.inl ⟨a, b, by rw [hv_int q1, hv_int q2], c.1.1, c.1.2, h _ A H1 (fun _ z => z) (fun _ z => .inl z) s1 R1 wk_range⟩)
          · cases e2
    | [.int a, .int b, .int c], e2, e1 =>
      refine .inr (.inr ?_)
      rw [Paired.length q1]
      have e4 : ∀ (as : List AV) (ds : List D), datAV as = some ds → as.length = ds.length := by
        intro as
        induction as with
        | nil => intro ds h; cases h; rfl
        | cons a as ih =>
          intro ds h
          cases a with
          | d x f =>
            have h : (datAV as).map (x :: ·) = some ds := h
            cases e : datAV as with
            | none => rw [e] at h; cases h
            | some ys =>
              rw [e] at h
              cases h
              rw [List.length_cons, List.length_cons, ih ys e]
          | var i => cases h
          | cst x => cases h
      exact e4 _ _ e1
theorem si_range (ok : XOk G cl W φ s X) {tg : Expr} {es : Es} {q p : Pos} {ls : List Expr} (h1 : isGl s sRange = true) (h2 : ls.length ≤ 2) (hc : chkEs G es s ls = true) (ha : PA X ls (tAv X.K cl W (evAs φ es))) :
    PI X tg (.Call (.Name sRange q) ls [] p) (tIv X.K cl W (evIt φ (.range es))) := by
  have ns := (chkEs_len hc).1
  have len : ∀ {A : Addr → Prop} {σ : Sg} {r : Rho} {H : Hp} {vs : List V} {as : List AV}, Paired (fun v a => HV X.K A σ H r v a) vs as → vs.length = as.length := fun q => Paired.length q
  have hm : X.mg "range" = none := ok.blt _ (by simp [bltN, sRange])
  match ls, h2, hc, ha, ns with
  | [], _, hc, ha, _ =>
    refine PI.imp' (t := fun _ _ _ => False) ⟨fun _ _ _ _ _ _ h => h.elim⟩ fun σ H Rr h => ?_
    cases es with
    | cons e es => cases hc
    | nil =>
      obtain ⟨A, r, R, h⟩ := ti_range h
      rcases h [] H .refl R .nil with ⟨_, e, _⟩ | ⟨_, _, e, _⟩ | e <;> cases e
  | [a], _, hc, ha, ns =>
    simp only [noStar, Bool.and_eq_true, Bool.not_eq_true'] at ns
    refine PI.imp' (pi_range1 (ok.gl h1) hm ha (star_cons ns.1)) fun σ H Rr h => ?_
    obtain ⟨A, r, R, h⟩ := ti_range h
    refine ⟨A, r, R, ?_⟩
    have hl : ∀ {r r' : Rho} {as : List AV}, evAs φ es r = .ok as r' → as.length = 1 := by
      cases es with
      | nil => cases hc
      | cons e es =>
        cases es with
        | cons e2 es => simp [chkEs] at hc
        | nil =>
          intro r r' as h
          have h : ((evP φ e).1 r).bind (fun x r1 => (Ev.R.ok ([] : List AV) r1).bind fun xs r2 => .ok (unfr x :: xs) r2) = .ok as r' := h
          cases e1 : (evP φ e).1 r with
          | stuck => rw [e1] at h; cases h
          | exc c fs r1 => rw [e1] at h; cases h
          | ok x r1 => rw [e1] at h; cases h; rfl
    generalize e : evAs φ es r = ra at h ⊢
    cases ra with
    | stuck => exact h
    | exc c fs r' => exact h
    | ok as r1 =>
      intro vs H1 s1 R1 q1
      have l1 := len q1
      rw [hl e] at l1
      rcases h vs H1 s1 R1 q1 with ⟨b, e1, c, q⟩ | ⟨a, b, e1, _⟩ | e1
      · rw [Int.sub_zero] at q
        exact ⟨b, e1, (okI_of c).1, (okI_of c).2, q⟩
      · rw [e1] at l1; cases l1
      · rw [e1] at l1; cases l1
  | [a, b], _, hc, ha, ns =>
    simp only [noStar, Bool.and_eq_true, Bool.not_eq_true'] at ns
    refine PI.imp' (pi_range2 (ok.gl h1) hm ha (by rw [star_cons ns.1, star_cons ns.2.1]; rfl) (star_cons ns.2.1)) fun σ H Rr h => ?_
    obtain ⟨A, r, R, h⟩ := ti_range h
    refine ⟨A, r, R, ?_⟩
    have hl : ∀ {r r' : Rho} {as : List AV}, evAs φ es r = .ok as r' → as.length = 2 := by
      cases es with
      | nil => cases hc
      | cons e es =>
        cases es with
        | nil => simp [chkEs] at hc
        | cons e2 es =>
          cases es with
          | cons e3 es => simp [chkEs] at hc
          | nil =>
            intro r r' as h
            have h : ((evP φ e).1 r).bind (fun x r1 => (((evP φ e2).1 r1).bind fun x r1 => (Ev.R.ok ([] : List AV) r1).bind fun xs r2 => .ok (unfr x :: xs) r2).bind fun xs r2 => .ok (unfr x :: xs) r2) = .ok as r' := h
            cases e1 : (evP φ e).1 r with
            | stuck => rw [e1] at h; cases h
            | exc c fs r1 => rw [e1] at h; cases h
            | ok x r1 =>
              rw [e1] at h
              simp only [Ev.R.bind] at h
              cases e3 : (evP φ e2).1 r1 with
              | stuck => rw [e3] at h; cases h
              | exc c fs r1 => rw [e3] at h; cases h
              | ok y r2 => rw [e3] at h; cases h; rfl
    generalize e : evAs φ es r = ra at h ⊢
    cases ra with
    | stuck => exact h
    | exc c fs r' => exact h
    | ok as r1 =>
      intro vs H1 s1 R1 q1
      have l1 := len q1
      rw [hl e] at l1
      rcases h vs H1 s1 R1 q1 with ⟨b, e1, _⟩ | ⟨a, b, e1, c, d, q⟩ | e1
      · rw [e1] at l1; cases l1
      · exact ⟨a, b, e1, ⟨(okI_of c).1, (okI_of c).2, (okI_of d).1, (okI_of d).2⟩, q⟩
      · rw [e1] at l1; cases l1
theorem si_enum (ok : XOk G cl W φ s X) {tg : Expr} {e : E} {q p : Pos} {l : Expr} (h1 : isGl s sEnum = true) (ht : isTupE tg = true) (hs : isStar l = false) (ha : Snd X cl W l (evP φ e)) :
    PI X tg (.Call (.Name sEnum q) [l] [] p) (tIv X.K cl W (evIt φ (.enum e))) := by
  cases tg <;> try (cases ht; done)
  refine PI.imp' (pi_enumE (ok.gl h1) (ok.blt _ (by simp [bltN, sEnum])) (pa_1 ha.1 hs) (star_cons hs)) ?_
  rintro σ H Rr ⟨A, r, R, h⟩
  refine ⟨A, r, R, ?_⟩
  have h : PostI X.K cl W A σ r H Rr (((evP φ e).1 r).bind fun x r1 => (walkLV x r1).bind fun q r2 => .ok (enumL 0 q.1, q.2) r2) := h
  generalize (evP φ e).1 r = ra at h ⊢
  cases ra with
  | stuck => exact h
  | exc c fs r' => exact h
  | ok x r1 =>
    intro v H1 ok
    obtain ⟨A1, h1, g1, s1, R1, q1⟩ := ok.hold
    have h : PostI X.K cl W A σ r H Rr ((walkLV x r1).bind fun q r2 => .ok (enumL 0 q.1, q.2) r2) := h
    unfold walkLV at h
    cases e1 : rd r1 x with
    | none => rw [e1] at h; exact h.elim
    | some d =>
      cases d with
      | list xs =>
        rw [e1] at h
        obtain ⟨p, e3, w⟩ := walk_of R1 q1 e1 (xs := xs) rfl
        rcases w with ⟨ys, _, ⟨vs, hs⟩, w⟩ | ⟨ys, z, _⟩
        · exact ⟨p, by rw [e3], .inl ⟨vs, hs, h _ A1 H1 h1 g1 s1 R1 (wk_enum w)⟩⟩
        · cases z
      | tuple xs =>
        rw [e1] at h
        obtain ⟨p, e3, w⟩ := walk_of R1 q1 e1 (xs := xs) rfl
        rcases w with ⟨ys, z, _⟩ | ⟨ys, _, ⟨vs, hs⟩, w⟩
        · cases z
        · exact ⟨p, by rw [e3], .inr ⟨vs, hs, h _ A1 H1 h1 g1 s1 R1 (wk_enumT w)⟩⟩
      | none => rw [e1] at h; exact h.elim
      | bool b => rw [e1] at h; exact h.elim
      | int b => rw [e1] at h; exact h.elim
      | str b => rw [e1] at h; exact h.elim
      | dict b => rw [e1] at h; exact h.elim

/-! ### comprehensions -/
theorem wipeR_at : ∀ (l : List Nat) (r : Rho) (i : Nat), i ∉ l → (wipeR r l)[i]? = r[i]?
  | [], r, i, _ => rfl
  | v :: l, r, i, h => by
    show ((wipeR r l).set v none)[i]? = _
    rw [List.getElem?_set_ne (fun z => h (by rw [z]; exact List.mem_cons_self ..))]
    exact wipeR_at l r i fun z => h (List.mem_cons_of_mem _ z)
theorem wipe_at : ∀ (l : List Nat) (σ : Sg) (i : Nat), i ∉ l → (wipe σ l)[i]? = σ[i]?
  | [], σ, i, _ => rfl
  | v :: l, σ, i, h => by
    show ((wipe σ l).set v none)[i]? = _
    rw [List.getElem?_set_ne (fun z => h (by rw [z]; exact List.mem_cons_self ..))]
    exact wipe_at l σ i fun z => h (List.mem_cons_of_mem _ z)
theorem wipe_in : ∀ (l : List Nat) (σ : Sg) (i : Nat), i ∈ l → i < σ.length → (wipe σ l)[i]? = some none
  | v :: l, σ, i, h, hl => by
    show ((wipe σ l).set v none)[i]? = _
    by_cases e : v = i
    · subst e
      exact List.getElem?_set_self (by rw [wipe_length]; exact hl)
    · rw [List.getElem?_set_ne e]
      exact wipe_in l σ i (by simpa [Ne.symm e] using h) hl
theorem wipe_eq {l : List Nat} {σ σ1 : Sg} (hl : σ1.length = σ.length) (h : ∀ i, i ∉ l → σ1[i]? = σ[i]?) : wipe σ1 l = wipe σ l := by
  apply List.ext_getElem?
  intro i
  by_cases hi : i ∈ l
  · by_cases hlt : i < σ.length
    · rw [wipe_in l σ i hi hlt, wipe_in l σ1 i hi (by omega)]
    · rw [List.getElem?_eq_none (by rw [wipe_length]; omega), List.getElem?_eq_none (by rw [wipe_length]; omega)]
  · rw [wipe_at l σ i hi, wipe_at l σ1 i hi, h i hi]
section
variable {K : PySem.W.Frag} {A A' : Addr → Prop} {σ σ' : Sg} {r r' : Rho} {H H' : Hp}
theorem Rl.wipe (R : Rl K A σ H r) (l : List Nat) : Rl K A (L2.wipe σ l) H (wipeR r l) ∧ (∀ p, Own (L2.wipe σ l) (wipeR r l) p → Own σ r p) := by
  have at_ : ∀ (i : Nat) (sv : SV), (wipeR r l)[i]? = some (some sv) → r[i]? = some (some sv) ∧ (L2.wipe σ l)[i]? = σ[i]? := fun i sv h => by
    obtain ⟨h1, h2⟩ := wipeR_get l r i sv h
    exact ⟨h2, wipe_at l σ i h1⟩
  have own : ∀ p, Own (L2.wipe σ l) (wipeR r l) p → Own σ r p := fun p ⟨i, o, m, h1, h2⟩ => by
    obtain ⟨h3, h4⟩ := at_ i _ h1
    rw [h4] at h2
    exact ⟨i, o, m, h3, h2⟩
  have sub : ∀ p, Av A (L2.wipe σ l) (wipeR r l) p → Av A σ r p := fun p z => z.imp id (own p)
  refine ⟨⟨by rw [wipe_length, wipeR_len]; exact R.len, fun i x h => ?_, fun i o m h => ?_, fun i x h => ?_, fun i j o m o' m' p h1 h2 h3 h4 => ?_, R.al⟩, own⟩
  · obtain ⟨h1, h2⟩ := at_ i _ h
    obtain ⟨v, h3, h4⟩ := R.d i x h1
    exact ⟨v, by rw [h2]; exact h3, h4.mono sub⟩
  · obtain ⟨h1, h2⟩ := at_ i _ h
    obtain ⟨v, h3, h4, h5⟩ := R.own i o m h1
    exact ⟨v, by rw [h2]; exact h3, h4.mono sub, h5⟩
  · obtain ⟨h1, h2⟩ := at_ i _ h
    obtain ⟨v, h3, h4⟩ := R.ro i x h1
    exact ⟨v, by rw [h2]; exact h3, h4.mono sub⟩
  · obtain ⟨h5, h6⟩ := at_ i _ h1
    obtain ⟨h7, h8⟩ := at_ j _ h2
    rw [h6] at h3
    rw [h8] at h4
    exact R.inj i j o m o' m' p h5 h7 h3 h4
/-- an address that is kept from may change -/
theorem Rl.updA {p : Addr} {ho : HO} (R : Rl K A σ H r) (hp : A p) (no : ¬ Own σ r p) (h2 : 2 ≤ lvl (some ho) := by exact Nat.le_refl 2) : Rl K A σ (upd H p ho) r := by
  have k1 : ∀ q u, H q = some u → ¬ Av A σ r q → upd H p ho q = some u := fun q u h n => by
    rw [upd_ne (fun z => n (.inl (by rw [z]; exact hp)))]; exact h
  refine ⟨R.len, fun i x h => let ⟨v, h1, h2⟩ := R.d i x h; ⟨v, h1, h2.step k1 fun q z => .inl z⟩, fun i o m h => ?_, fun i x h => let ⟨v, h1, h2⟩ := R.ro i x h; ⟨v, h1, h2.step k1 fun q z => .inl z⟩, R.inj, fun q z => ?_⟩
  · obtain ⟨q, h1, h2, h3⟩ := R.own i o m h
    refine ⟨q, h1, h2.step (fun q' u e z => ?_) (fun q z => .inl z), h3⟩
    rcases z with z | z
    · subst z
      rw [upd_ne (fun z => no (by rw [← z]; exact ⟨i, o, m, h, h1⟩))]
      exact e
    · exact k1 q' u e z
  · by_cases e : q = p
    · rw [e, upd_same]; exact h2
    · rw [upd_ne e]; exact R.al q z
theorem noOwn_at : ∀ {l : List Nat} {r : Rho}, noOwn r l = true → ∀ i ∈ l, (∃ x, r[i]? = some x) ∧ ∀ (o : Ob) (m : Bool), r[i]? ≠ some (some (.own o m))
  | v :: l, r, h, i, hi => by
    have h : ((match r[v]? with
      | some (some (.own _ _)) => false
      | some _ => true
      | none => false) && noOwn r l) = true := h
    rw [Bool.and_eq_true] at h
    rcases List.mem_cons.mp hi with e | hi
    · subst e
      obtain ⟨h, _⟩ := h
      split at h
      · cases h
      · rename_i x n e
        refine ⟨⟨_, e⟩, fun o m z => ?_⟩
        rw [e] at z
        cases z
        exact n o m rfl
      · cases h
    · exact noOwn_at h.2 i hi
theorem backR_len (r0 : Rho) : ∀ (l : List Nat) (r : Rho), (backR r0 r l).length = r.length
  | [], r => rfl
  | v :: l, r => by
    show ((backR r0 r l).set v _).length = _
    rw [List.length_set, backR_len r0 l r]
theorem backR_out (r0 : Rho) : ∀ (l : List Nat) (r : Rho) (i : Nat), i ∉ l → (backR r0 r l)[i]? = r[i]?
  | [], r, i, _ => rfl
  | v :: l, r, i, h => by
    show ((backR r0 r l).set v _)[i]? = _
    rw [List.getElem?_set_ne (fun z => h (by rw [z]; exact List.mem_cons_self ..))]
    exact backR_out r0 l r i fun z => h (List.mem_cons_of_mem _ z)
theorem backR_in (r0 : Rho) : ∀ (l : List Nat) (r : Rho) (i : Nat), i ∈ l → i < r.length → (backR r0 r l)[i]? = some ((r0[i]?).getD none)
  | v :: l, r, i, h, hl => by
    show ((backR r0 r l).set v _)[i]? = _
    by_cases e : v = i
    · subst e
      exact List.getElem?_set_self (by rw [backR_len]; exact hl)
    · rw [List.getElem?_set_ne e]
      exact backR_in r0 l r i (by simpa [Ne.symm e] using h) hl
end
end
end Ev
/-! Comprehensions; every expression keeps what it computes. -/
namespace Ev
open PySem PySem.Spec PyProof.Rows L2
section
variable {G : Cg} {cl : ClsT} {W : WX} {φ : Phi} {s : Sc} {X : Cx}
theorem setT_len : ∀ {tg : Tg} {x : PyData} {r r1 : Rho}, setT tg x r = some r1 → r1.length = r.length
  | .one i, x, r, r1, h => by cases h; rw [List.length_set]
  | .two i j, .tuple [a, b], r, r1, h => by cases h; rw [List.length_set, List.length_set]
  | .two i j, .tuple [], r, r1, h => by cases h
  | .two i j, .tuple [_], r, r1, h => by cases h
  | .two i j, .tuple (_ :: _ :: _ :: _), r, r1, h => by cases h
  | .two i j, .none, r, r1, h => by cases h
  | .two i j, .bool _, r, r1, h => by cases h
  | .two i j, .int _, r, r1, h => by cases h
  | .two i j, .str _, r, r1, h => by cases h
  | .two i j, .list _, r, r1, h => by cases h
  | .two i j, .dict _, r, r1, h => by cases h
theorem Stp.updN {σ : Sg} {r r' : Rho} {H H' : Hp} {p : Addr} {ho : HO} (s : Stp σ r r' H H') (hp : H p = Option.none) : Stp σ r r' H (upd H' p ho) :=
  ⟨fun q o e n => by
    rw [upd_ne (ne_of_none e hp)]; exact s.keep q o e n, fun q => by
    by_cases z : q = p
    · rw [z, hp]; exact Nat.zero_le _
    · rw [upd_ne z]; exact s.live q, s.slot⟩
abbrev Wf : WX := fun _ _ _ _ => False
/-- where a comprehension stands -/
structure CS (K : PySem.W.Frag) (A1 : Addr → Prop) (σ : Sg) (r1 : Rho) (H1 : Hp) (sl : List Nat) (D : Addr) (r' : Rho) (H' : Hp) (ys0 : List PyData) : Prop where
  rl : Rl K (And1 A1 D) (wipe σ sl) H' r'
  st : Stp (wipe σ sl) (wipeR r1 sl) r' H1 H'
  acc : ∃ vs, H' D = some (.lst vs) ∧ RepL (Av (And1 A1 D) (wipe σ sl) r') H' vs ys0
section
variable {K : PySem.W.Frag} {A A1 : Addr → Prop} {σ : Sg} {r r1 r' : Rho} {H H1 H' : Hp} {sl : List Nat} {D : Addr} {ys0 : List PyData}
theorem own_wipe {p : Addr} (h : Own (wipe σ sl) (wipeR r1 sl) p) : Own σ r1 p := by
  obtain ⟨i, o, m, h1, h2⟩ := h
  obtain ⟨h3, h4⟩ := wipeR_get _ _ _ _ h1
  rw [wipe_at _ _ _ h3] at h2
  exact ⟨i, o, m, h4, h2⟩
theorem stq_wipe : Stq σ r1 H1 (wipe σ sl) (wipeR r1 sl) H1 := by
  refine ⟨fun _ _ h _ => h, fun _ => Nat.le_refl _, fun p h => .inl (own_wipe h), fun i o h => ?_, fun p ⟨i, o, h1, h2⟩ => ?_⟩
  · obtain ⟨h3, h4⟩ := wipeR_get _ _ _ _ h
    exact ⟨⟨o, h4⟩, wipe_at _ _ _ h3⟩
  · obtain ⟨h3, h4⟩ := wipeR_get _ _ _ _ h1
    rw [wipe_at _ _ _ h3] at h2
    exact .inl ⟨i, o, h4, h2⟩
theorem CS.noD (R1 : Rl K A1 σ H1 r1) (hD : H1 D = none) (c : CS K A1 σ r1 H1 sl D r' H' ys0) : ¬ Own (wipe σ sl) r' D := fun z => R1.own_some (own_wipe (c.st.own _ z)) hD
theorem CS.start (R1 : Rl K A1 σ H1 r1) (hD : H1 D = none) : CS K A1 σ r1 H1 sl D (wipeR r1 sl) (upd H1 D (.lst [])) [] := by
  refine ⟨(R1.wipe sl).1.and1 (Ev.grow hD) hD (by rw [upd_same]; exact Nat.le_refl 2), Stp.refl.updN hD, [], upd_same, .nil⟩
/-- a turn: the target set, tests and element run -/
theorem CS.turn (hD : H1 D = none) (c : CS K A1 σ r1 H1 sl D r' H' ys0) {H'' : Hp} (g : ∀ p o, H' p = some o → H'' p = some o) {σ1 : Sg} {rs rE : Rho} {HE : Hp} (hσ : ∀ i, i ∉ sl → σ1[i]? = (wipe σ sl)[i]? ∧ rs[i]? = r'[i]?)
    (ho : ∀ p, Own σ1 rs p → Own (wipe σ sl) r' p) (R1 : Rl K A1 σ H1 r1) (hl : σ1.length = (wipe σ sl).length) (T : Stp σ1 rs rE H'' HE) (RE : Rl K (And1 A1 D) σ1 HE rE) :
    CS K A1 σ r1 H1 sl D (wipeR rE sl) HE ys0 ∧ (∀ p, Av (And1 A1 D) (wipe σ sl) (wipeR rE sl) p → Av (And1 A1 D) σ1 rE p) := by
  have ew : wipe σ1 sl = wipe σ sl := wipe_eq (by rw [hl, wipe_length]) fun i hi => by rw [(hσ i hi).1, wipe_at _ _ _ hi]
  obtain ⟨R2, o2⟩ := RE.wipe sl
  rw [ew] at R2 o2
  have keep : ∀ p o, H' p = some o → ¬ Own (wipe σ sl) r' p → HE p = some o := fun p o e n => T.keep p o (g p o e) fun z => n (ho p z)
  have noD := c.noD R1 hD
  obtain ⟨vs, h1, h2⟩ := c.acc
  refine ⟨⟨R2, ⟨fun p o e n => keep p o (c.st.keep p o e n) fun z => n (c.st.own p z), fun p => Nat.le_trans (c.st.live p) (Nat.le_trans (lvl_grow g p) (T.live p)), fun i o m e => ?_⟩, vs, keep D _ h1 noD, h2.step (fun p o e n => keep p o e fun z => n (.inr z)) fun p z => .inl (z.imp id fun z => ho p (T.own p (o2 p z)))⟩, fun p z => z.imp id (o2 p)⟩
  · obtain ⟨h3, h4⟩ := wipeR_get _ _ _ _ e
    obtain ⟨o', h5⟩ := T.slot i o m h4
    rw [(hσ i h3).2] at h5
    exact c.st.slot i o' m h5
theorem CS.push (hD : H1 D = none) (R1 : Rl K A1 σ H1 r1) (c : CS K A1 σ r1 H1 sl D r' H' ys0) {vs : List V} (hv : H' D = some (.lst vs)) {v : V} {y : PyData} (rv : Rep (Av (And1 A1 D) (wipe σ sl) r') H' v y) :
    CS K A1 σ r1 H1 sl D r' (upd H' D (.lst (vs ++ [v]))) (ys0 ++ [y]) := by
  have aD : Av (And1 A1 D) (wipe σ sl) r' D := .inl (.inr rfl)
  obtain ⟨vs', h1, h2⟩ := c.acc
  rw [hv] at h1
  cases h1
  exact ⟨c.rl.updA (.inr rfl) (c.noD R1 hD), c.st.updN hD, _, upd_same, (h2.upd aD).append (.cons (rv.upd aD) .nil)⟩
/-- the end: the slots as they were -/
theorem CS.done (hA : ∀ p, A p → A1 p) (s1 : Stp σ r r1 H H1) (R1 : Rl K A1 σ H1 r1) (hD : H1 D = none) (no : noOwn r1 sl = true) (c : CS K A1 σ r1 H1 sl D r' H' ys0) : OkE K A σ r H (.ref D) H' (.d (.list ys0) true) (backR r1 r' sl) := by
  have lr : r'.length = r1.length := by
    have := c.rl.len
    rw [wipe_length, R1.len] at this
    exact this.symm
  have in_ : ∀ i, i ∈ sl → (backR r1 r' sl)[i]? = r1[i]? := fun i hi => by
    obtain ⟨⟨x, e⟩, _⟩ := noOwn_at no i hi
    rw [backR_in r1 sl r' i hi (by rw [lr]; exact (List.getElem?_eq_some_iff.mp e).1), e]
    rfl
  have out : ∀ i, i ∉ sl → (backR r1 r' sl)[i]? = r'[i]? := fun i hi => backR_out r1 sl r' i hi
  have slot : ∀ (i : Nat) (o : Ob) (m : Bool), (backR r1 r' sl)[i]? = some (some (.own o m)) → i ∉ sl ∧ r'[i]? = some (some (.own o m)) := fun i o m e => by
    by_cases hi : i ∈ sl
    · rw [in_ i hi] at e
      exact absurd e ((noOwn_at no i hi).2 o m)
    · rw [out i hi] at e
      exact ⟨hi, e⟩
  have own : ∀ p, Own σ (backR r1 r' sl) p → Own (wipe σ sl) r' p := fun p ⟨i, o, m, h1, h2⟩ => by
    obtain ⟨h3, h4⟩ := slot i o m h1
    exact ⟨i, o, m, h4, by rw [wipe_at _ _ _ h3]; exact h2⟩
  have own1 : ∀ p, Own σ (backR r1 r' sl) p → Own σ r1 p := fun p z => own_wipe (c.st.own p (own p z))
  have st : Stp σ r1 (backR r1 r' sl) H1 H' := ⟨fun p o e n => c.st.keep p o e fun z => n (own_wipe z), c.st.live, fun i o m e => by
    obtain ⟨h3, h4⟩ := slot i o m e
    obtain ⟨o', h5⟩ := c.st.slot i o m h4
    exact ⟨o', (wipeR_get _ _ _ _ h5).2⟩⟩
  have sub : ∀ p, Av (And1 A D) σ (backR r1 r' sl) p → Av (And1 A1 D) (wipe σ sl) r' p := fun p z => z.imp (fun z => z.imp (hA p) id) (own p)
  have k1 : ∀ p o, H1 p = some o → ¬ Av A1 σ r1 p → H' p = some o := fun p o e n => st.keep p o e fun z => n (.inr z)
  have k2 : ∀ p, Av (And1 A D) σ (backR r1 r' sl) p → Av A1 σ r1 p ∨ H1 p = none := fun p z => by
    rcases z with (z | z) | z
    · exact .inl (.inl (hA p z))
    · exact .inr (by rw [z]; exact hD)
    · exact .inl (.inr (own1 p z))
  obtain ⟨vs, h1, h2⟩ := c.acc
  refine ⟨s1.trans st, D, rfl, s1.none hD, fun z => R1.own_some (own1 D z) hD, ⟨?_, fun i x e => ?_, fun i o m e => ?_, fun i x e => ?_, fun i j o m o' m' p e1 e2 e3 e4 => ?_, fun p z => c.rl.al p (z.imp (hA p) id)⟩, vs, h1, h2.mono sub⟩
  · rw [backR_len, lr]; exact R1.len
  · by_cases hi : i ∈ sl
    · rw [in_ i hi] at e
      obtain ⟨v, q1, q2⟩ := R1.d i x e
      exact ⟨v, q1, q2.step k1 k2⟩
    · rw [out i hi] at e
      obtain ⟨v, q1, q2⟩ := c.rl.d i x e
      rw [wipe_at _ _ _ hi] at q1
      exact ⟨v, q1, q2.mono sub⟩
  · obtain ⟨h3, h4⟩ := slot i o m e
    obtain ⟨p, q1, q2, q3⟩ := c.rl.own i o m h4
    rw [wipe_at _ _ _ h3] at q1
    exact ⟨p, q1, q2.mono sub, fun z y => q3 z (y.imp (hA p) id)⟩
  · by_cases hi : i ∈ sl
    · rw [in_ i hi] at e
      obtain ⟨v, q1, q2⟩ := R1.ro i x e
      exact ⟨v, q1, q2.step k1 k2⟩
    · rw [out i hi] at e
      obtain ⟨v, q1, q2⟩ := c.rl.ro i x e
      rw [wipe_at _ _ _ hi] at q1
      exact ⟨v, q1, q2.mono sub⟩
  · obtain ⟨h3, h4⟩ := slot i o m e1
    obtain ⟨h5, h6⟩ := slot j o' m' e2
    rw [← wipe_at _ _ _ h3] at e3
    rw [← wipe_at _ _ _ h5] at e4
    exact c.rl.inj i j o m o' m' p h4 h6 e3 e4
end
/-- what the rest of a comprehension is to bring -/
def PF (K : PySem.W.Frag) (A1 : Addr → Prop) (σ : Sg) (r1 : Rho) (H1 : Hp) (sl : List Nat) (D : Addr) (Q : VK) (ys0 : List PyData) : R (List PyData) → Prop
  | .ok ys r2 => ∀ H2, CS K A1 σ r1 H1 sl D r2 H2 (ys0 ++ ys) → Q (.ref D) H2
  | .exc _ _ _ => True
  | .stuck => False
theorem te_comp {K : PySem.W.Frag} {it : Rho → R (List PyData × Option (Nat × PyData))} {tg : Tg} {c : Rho → R Bool} {e : Rho → R PyData} : ∀ σ H Q, tEv K cl W (fun r => (it r).bind fun q r1 => if noOwn r1 tg.slots && decide (q.1.length ≤ line) then (compL tg c e q.2 q.1 (wipeR r1 tg.slots)).bind fun ys r2 => .ok (.d (.list ys) true) (backR r1 r2 tg.slots) else .stuck) σ H Q →
    tLc (tIv K cl W it) (gT K tg) (tTv K cl Wf c) (tDv K cl Wf e) tg.slots σ H Q := by
  rintro σ H Q ⟨A, r, R, h⟩
  refine ⟨A, r, R, ?_⟩
  dsimp only at h
  generalize it r = ra at h ⊢
  cases ra with
  | stuck => exact h
  | exc k fs r' => exact h
  | ok q r1 =>
    obtain ⟨xs, chk⟩ := q
    intro J A1 H1 hA hA' s1 R1 w D hD
    simp only [Ev.R.bind] at h
    split at h
    · rename_i hno
      rw [Bool.and_eq_true] at hno
      obtain ⟨no, hlen⟩ := hno
      have hlen : xs.length ≤ line := of_decide_eq_true hlen
      have pf0 : PF K A1 σ r1 H1 tg.slots D Q [] (compL tg c e chk xs (wipeR r1 tg.slots)) := by
        generalize compL tg c e chk xs (wipeR r1 tg.slots) = rc at h ⊢
        cases rc with
        | stuck => exact h
        | exc k fs r' => trivial
        | ok ys r2 => exact fun H2 cs => h _ H2 (cs.done hA s1 R1 hD no)
      refine ⟨fun n m H' => m = xs.length - n ∧ n ≤ xs.length ∧ ∃ r' ys0, CS K A1 σ r1 H1 tg.slots D r' H' ys0 ∧ ys0.length ≤ n ∧ PF K A1 σ r1 H1 tg.slots D Q ys0 (compL tg c e chk (xs.drop n) r'), ⟨xs.length, by simp, Nat.zero_le _, _, [], .start R1 hD, Nat.zero_le _, pf0⟩, ?_⟩
      rintro n m H' ⟨rfl, hn, r', ys0, cs, hy, pf⟩
      have sq : Stq σ r1 H1 (wipe σ tg.slots) r' H' := stq_wipe.trans cs.st.q
      have hA2 : ∀ p, And1 A1 D p → A1 p ∨ H1 p = none := fun p z => z.imp id fun z => by rw [z]; exact hD
      have go : stands chk r' = true → _ := fun hs => w (And1 A1 D) (wipe σ tg.slots) r' H' sq hA2 cs.rl hs (fun i d ec => by
        have hs : stands (some (i, d)) r' = true := by
          have ec : chk = some (i, d) := ec
          rw [← ec]; exact hs
        have hs : (match r'[i]? with
          | some (some (.own o _)) => sameD (obD o) d
          | _ => false) = true := hs
        split at hs
        · rename_i o mm eo
          obtain ⟨o', h2⟩ := cs.st.slot i _ _ eo
          exact wipe_at _ _ _ (wipeR_get _ _ _ _ h2).1
        · cases hs) n
      by_cases hlt : n < xs.length
      · right
        have ed : xs.drop n = xs[n] :: xs.drop (n + 1) := List.drop_eq_getElem_cons hlt
        rw [ed] at pf
        unfold compL at pf
        split at pf
        · rename_i hs
          split at pf
          · rename_i rs es
            obtain ⟨g1, g2⟩ := (go hs).1 xs[n] (List.getElem?_eq_getElem hlt)
            refine ⟨g1, fun H2 => n + 1 ≤ xs.length ∧ ∃ r' ys0, CS K A1 σ r1 H1 tg.slots D r' H2 ys0 ∧ ys0.length ≤ n + 1 ∧ PF K A1 σ r1 H1 tg.slots D Q ys0 (compL tg c e chk (xs.drop (n + 1)) r'), fun H2 hN => ⟨xs.length - (n + 1), by omega, rfl, hN.1, hN.2⟩, fun xv H'' hy2 => ?_⟩
            obtain ⟨gr, rx⟩ := g2 xv H'' hy2
            have RL : Rl K (And1 A1 D) (wipe σ tg.slots) H'' r' := cs.rl.grow gr
            obtain ⟨σ1, k1, k2, k3, k4, k5, _⟩ := setT_ok RL rx es
            refine k1 _ ?_
            have hl : σ1.length = (wipe σ tg.slots).length := by
              rw [k2.len, cs.rl.len]
              exact setT_len es
            refine ⟨wipe_eq (by rw [hl, wipe_length]) fun i hi => by rw [(k4 i hi).1, wipe_at _ _ _ hi], And1 A1 D, rs, k2, ?_⟩
            cases ec : c rs with
            | stuck => rw [ec] at pf; exact pf.elim
            | exc k fs r2 => rw [ec] at pf; exact pf.elim
            | ok k r2 =>
              rw [ec] at pf
              intro H3 s3 R3
              cases k with
              | false =>
                have pf : PF K A1 σ r1 H1 tg.slots D Q ys0 (compL tg c e chk (xs.drop (n + 1)) (wipeR r2 tg.slots)) := pf
                rw [if_neg (by decide)]
                obtain ⟨cs2, _⟩ := cs.turn hD gr k4 k5 R1 hl s3 R3
                exact ⟨hlt, _, ys0, cs2, Nat.le_succ_of_le hy, pf⟩
              | true =>
                rw [if_pos rfl]
                have pf : PF K A1 σ r1 H1 tg.slots D Q ys0 ((nox (e r2)).bind fun y r3 => (compL tg c e chk (xs.drop (n + 1)) (wipeR r3 tg.slots)).bind fun ys r4 => .ok (y :: ys) r4) := pf
                refine ⟨And1 A1 D, r2, R3, ?_⟩
                cases ee : e r2 with
                | stuck => rw [ee] at pf; exact pf.elim
                | exc k fs r3 => rw [ee] at pf; exact pf.elim
                | ok y r3 =>
                  rw [ee] at pf
                  intro v H4 s4 R4 rv
                  obtain ⟨cs2, sub⟩ := cs.turn hD gr k4 k5 R1 hl (s3.trans s4) R4
                  obtain ⟨vs, h1, h2⟩ := cs2.acc
                  refine ⟨vs, h1, by rw [h2.length, ← line_eq]; omega, hlt, _, ys0 ++ [y], cs2.push hD R1 h1 (rv.mono sub), by rw [List.length_append]; simp; omega, ?_⟩
                  have pf : PF K A1 σ r1 H1 tg.slots D Q ys0 ((compL tg c e chk (xs.drop (n + 1)) (wipeR r3 tg.slots)).bind fun ys r4 => .ok (y :: ys) r4) := pf
                  generalize compL tg c e chk (xs.drop (n + 1)) (wipeR r3 tg.slots) = rc at pf ⊢
                  cases rc with
                  | stuck => exact pf
                  | exc k fs r' => trivial
                  | ok ys r4 =>
                    intro H5 cs5
                    rw [List.append_assoc] at cs5
                    exact pf H5 cs5
          · exact pf.elim
        · exact pf.elim
      · left
        have e0 : xs.drop n = [] := List.drop_eq_nil_of_le (by omega)
        rw [e0] at pf
        unfold compL at pf
        split at pf
        · rename_i hs
          refine ⟨(go hs).2 (show xs.length ≤ n by omega), pf H' ?_⟩
          rw [List.append_nil]
          exact cs
        · exact pf.elim
    · exact h.elim
end
end Ev
/-! Every expression keeps what it computes. -/
namespace Ev
open PySem PySem.Spec PyProof.Rows L2
section
variable {G : Cg} {cl : ClsT} {W : WX} {φ : Phi} {s : Sc} {X : Cx}
theorem XOk.set_ (ok : XOk G cl W φ s X) {x : Str} (h : canSet s x = true) : L2.Loc X.env.scope x ∧ (X.fn x = true ∨ X.env.scope.names.lookup x = some .local) := by
  unfold canSet kd at h
  rw [ok.sc]
  unfold L2.Loc
  cases e : s.rel.names.lookup x with
  | none => rw [e] at h; cases h
  | some k =>
    rw [e] at h
    cases k with
    | «local» => exact ⟨.inl rfl, .inr rfl⟩
    | cell =>
      refine ⟨.inr rfl, .inl (ok.fn x ?_)⟩
      dsimp only at h
      split at h
      · assumption
      · cases h
    | free => cases h
    | globalExplicit => cases h
    | globalImplicit => cases h
theorem pg_nm (ok : XOk G cl W φ s X) {i : Nat} {x : Str} {p : Pos} (h1 : atN G i x = true) (h2 : canSet s x = true) : PG X (.Name x p) (gName i) := by
  obtain ⟨h3, h4⟩ := ok.set_ h2
  exact pg_name (by rw [ok.n]; exact ok.nd) (ok.at_ h1) h3 h4
theorem pg_tg (ok : XOk G cl W φ s X) {tg : Tg} {t : Expr} (h : chkTg G s tg t = true) : PG X t (gT X.K tg) ∧ (tgOwn tg t).map (·.2) = tg.slots := by
  unfold chkTg at h
  split at h
  · rw [Bool.and_eq_true] at h
    exact ⟨pg_nm ok h.1 h.2, rfl⟩
  · simp only [Bool.and_eq_true, decide_eq_true_eq] at h
    obtain ⟨⟨⟨⟨h1, h2⟩, h3⟩, h4⟩, _⟩ := h
    exact ⟨pg_tup ok.calm (pgs_cons (pg_nm ok h1 h2) (pgs_cons (pg_nm ok h3 h4) pgs_nil)), rfl⟩
  · cases h
theorem XOk.blk (ok : XOk G cl W φ s X) {scope : Scope} (hk : scope.kind = .function) (s0 : Shared) (H : Hp) (C : Addr) (cs : List (Str × Addr)) (fp : List Addr) : XOk G cl Wf φ ⟨scope, relS scope s.rel⟩ (X.blk s0 H scope (compEnvC scope cs C X.env) fp) where
  calm := ok.calm
  n := ok.n
  nd := ok.nd
  sc := by
    show relS scope X.env.scope = _
    rw [ok.sc]
  kind := hk
  fn := fun x h => by
    show (scope.names.lookup x == some .cell) = true
    rw [show scope.names.lookup x = some .cell from h]
    rfl
  units := ok.units
  own := PassesOwn.never
  tk := fun u s' ⟨_, _, _, _, _, _, _, _, _, _, _, _, _, _, _, _, w⟩ => w.elim
  blt := ok.blt
  fns := ok.fns
  con := ok.con
theorem fold_of {i : Expr} {env : Env} (h : isSetE i = false) : ∀ x, foldedSetIterable i env x = pure x := by
  intro x
  cases i <;> first | rfl | cases h
theorem se_comp (ok : XOk G cl W φ s X) {tg : Tg} {it : It} {cond : Es} {elt : E} {x t i : Expr} {ifs : List Expr} {scope : Scope} {p : Pos} (hi : PI X t i (tIv X.K cl W (evIt φ it))) (h2 : isSetE i = false) (h3 : blkC G.N s.rel scope (tgOwn tg t) = true) (h4 : chkTg G ⟨scope, relS scope s.rel⟩ tg t = true)
    (hc : ∀ {Y : Cx}, XOk G cl Wf φ ⟨scope, relS scope s.rel⟩ Y → PTs Y ifs (tTv Y.K cl Wf (evC φ cond))) (he : ∀ {Y : Cx}, XOk G cl Wf φ ⟨scope, relS scope s.rel⟩ Y → Snd Y cl Wf x (evP φ elt)) :
    Snd X cl W (.ListComp x [⟨t, i, ifs, 0⟩] scope p) (evP φ (.comp tg it cond elt)) := by
  unfold evP
  have bo : BlkOk X.N X.env.scope scope (tgOwn tg t) := by
    rw [ok.n, ok.sc]
    exact blkOk_by h3
  have es : (tgOwn tg t).map (·.2) = tg.slots := (pg_tg (ok.blk bo.kind X.s_0 X.H_0 X.env.locals [] []) h4).2
  have go := pe_lc (pos := p) (elt := x) (ifs := ifs) (g := gT X.K tg) (tt := tTv X.K cl Wf (evC φ cond)) (te := tDv X.K cl Wf (dof (evP φ elt).1)) ok.calm (by rw [ok.n]; exact ok.nd) hi bo (fun s0 H C cs fp => (pg_tg (ok.blk bo.kind s0 H C cs fp) h4).1) (fun s0 H C cs fp => hc (ok.blk bo.kind s0 H C cs fp)) (fun s0 H C cs fp => PE.imp' (he (ok.blk bo.kind s0 H C cs fp)).1 te_dof) (fold_of h2)
  rw [es] at go
  exact snd_mk (PE.imp' go te_comp)
theorem pts_no : PTs X [] (tTv X.K cl W (evC φ .nil)) := ⟨fun pins s0 σ H Q I ⟨A, r, R, h⟩ => pts_nil.run pins s0 σ H Q I (h H .refl R)⟩
theorem sound_Es0 : PA X [] (tAv X.K cl W (evAs φ .nil)) ∧ PA X [] (tLv X.K cl W (evDs φ .nil)) := ⟨PA.imp' pa_nil ta_nilA, PA.imp' pa_nil ta_nilL⟩
theorem sound_Es1 {e : E} {es : Es} {l : Expr} {ls : List Expr} (hs : isStar l = false) (h : Snd X cl W l (evP φ e)) (hr : PA X ls (tAv X.K cl W (evAs φ es)) ∧ PA X ls (tLv X.K cl W (evDs φ es))) :
    PA X (l :: ls) (tAv X.K cl W (evAs φ (.cons e es))) ∧ PA X (l :: ls) (tLv X.K cl W (evDs φ (.cons e es))) :=
  ⟨PA.imp' (pa_cons h.1 hr.1 (star_cons hs)) ta_consA, PA.imp' (pa_cons (PE.imp' h.1 te_dof) hr.2 (star_cons hs)) ta_consL⟩
end
mutual
theorem sound_E {G : Cg} {cl : ClsT} {φ : Phi} : (e : E) → ∀ {W : WX} {s : Sc} {X : Cx} {ex : Expr}, XOk G cl W φ s X → chkE G e s ex = true → Snd X cl W ex (evP φ e)
  | .var i, W, s, X, ex, ok, h => by
    obtain ⟨x, p, rfl, h1, h2, h3⟩ := chk_var h
    exact se_var ok h1 h2 h3
  | .int i, W, s, X, ex, ok, h => by
    obtain ⟨k, p, rfl⟩ := chk_int h
    exact se_int
  | .str i, W, s, X, ex, ok, h => by
    obtain ⟨k, p, rfl⟩ := chk_str h
    exact se_str
  | .bl i, W, s, X, ex, ok, h => by
    obtain ⟨k, p, rfl⟩ := chk_bl h
    exact se_bl
  | .non, W, s, X, ex, ok, h => by
    obtain ⟨k, p, rfl⟩ := chk_non h
    exact se_non
  | .glob x d, W, s, X, ex, ok, h => by
    obtain ⟨p, rfl, h1, h2, h3⟩ := chk_glob h
    exact se_glob ok h1 h2 h3
  | .op2 o a b, W, s, X, ex, ok, h => by
    obtain ⟨l, r, p, rfl, h1, h2⟩ := chk_op2 h
    exact se_op2 (sound_E a ok h1) (sound_E b ok h2)
  | .neg a, W, s, X, ex, ok, h => by
    obtain ⟨l, p, rfl, h1⟩ := chk_neg h
    exact se_neg (sound_E a ok h1)
  | .not a, W, s, X, ex, ok, h => by
    obtain ⟨l, p, rfl, h1⟩ := chk_not h
    exact se_not (sound_E a ok h1)
  | .and a b, W, s, X, ex, ok, h => by
    obtain ⟨l, r, rest, p, rfl, h1, h2⟩ := chk_and h
    refine se_and (sound_E a ok h1) (fun e => ?_) fun e => ?_
    · subst e
      exact sound_E b ok h2
    · cases rest with
      | nil => exact absurd rfl e
      | cons y ys => exact sound_E b ok h2
  | .or a b, W, s, X, ex, ok, h => by
    obtain ⟨l, r, rest, p, rfl, h1, h2⟩ := chk_or h
    refine se_or (sound_E a ok h1) (fun e => ?_) fun e => ?_
    · subst e
      exact sound_E b ok h2
    · cases rest with
      | nil => exact absurd rfl e
      | cons y ys => exact sound_E b ok h2
  | .cmp c a b, W, s, X, ex, ok, h => by
    obtain ⟨l, r, p, rfl, h1, h2, h3⟩ := chk_cmp h
    exact se_cmp ok (sound_E a ok h1) (sound_E b ok h2) h3
  | .chain c c' a b d, W, s, X, ex, ok, h => by
    obtain ⟨l, r, r', p, rfl, h1, h2, h3, h4⟩ := chk_chain h
    exact se_chain ok (sound_E a ok h1) (sound_E b ok h2) (sound_E d ok h3) h4
  | .ite c a b, W, s, X, ex, ok, h => by
    obtain ⟨x, l, r, p, rfl, h1, h2, h3⟩ := chk_ite h
    exact se_ite (sound_E c ok h1) (sound_E a ok h2) (sound_E b ok h3)
  | .tup es, W, s, X, ex, ok, h => by
    obtain ⟨ls, k, p, rfl, h1, h2⟩ := chk_tup h
    exact se_tup h1 h2 (sound_Es es ok h1).2
  | .lst es, W, s, X, ex, ok, h => by
    obtain ⟨ls, p, rfl, h1, h2⟩ := chk_lst h
    exact se_lst h1 h2 (sound_Es es ok h1).2
  | .dict0, W, s, X, ex, ok, h => by
    obtain ⟨p, rfl⟩ := chk_dict0 h
    exact se_dict0
  | .ix a b, W, s, X, ex, ok, h => by
    obtain ⟨l, r, p, rfl, h1, h2, h3⟩ := chk_ix h
    exact se_ix (sound_E a ok h1) (sound_E b ok h2) h3
  | .dix a b, W, s, X, ex, ok, h => by
    obtain ⟨l, r, p, rfl, h1, h2, h3⟩ := chk_dix h
    exact se_dix ok (sound_E a ok h1) (sound_E b ok h2) h3
  | .sl a lo hi, W, s, X, ex, ok, h => by
    obtain ⟨l, x, y, p1, p, rfl, h1, h2, h3⟩ := chk_sl h
    exact se_sl (sound_E a ok h1) (sound_O lo ok h2) (sound_O hi ok h3)
  | .rev a, W, s, X, ex, ok, h => by
    obtain ⟨l, k, p1, p2, p3, p, rfl, h1⟩ := chk_rev h
    exact se_rev (sound_E a ok h1)
  | .len a, W, s, X, ex, ok, h => by
    obtain ⟨q, l, p, rfl, h1, h2, h3⟩ := chk_len h
    exact se_len ok h1 h2 (sound_E a ok h3)
  | .bi b a, W, s, X, ex, ok, h => by
    obtain ⟨q, l, p, rfl, h0, h1, h2, h3⟩ := chk_bi h
    exact se_bi ok h0 h1 h2 (sound_E a ok h3)
  | .bi2 b a c, W, s, X, ex, ok, h => by
    obtain ⟨q, l, r, p, rfl, h1, h2, h3, h4, h5⟩ := chk_bi2 h
    exact se_bi2 ok h1 h2 h3 (sound_E a ok h4) (sound_E c ok h5)
  | .isi a t, W, s, X, ex, ok, h => by
    obtain ⟨q, l, q2, p, rfl, h1, h2, h3, h4⟩ := chk_isi h
    exact se_isi ok h1 h2 h3 (sound_E a ok h4)
  | .dget1 a k, W, s, X, ex, ok, h => by
    obtain ⟨l, apos, r, cpos, rfl, h1, h2, h3, h4, h5⟩ := chk_dget1 h
    exact se_dget1 ok h1 h2 h3 (sound_E a ok h4) (sound_E k ok h5)
  | .mm m i es, W, s, X, ex, ok, h => by
    obtain ⟨x, p, apos, ls, cpos, rfl, h1, h2, h3, h4, h5, h6, h7⟩ := chk_mm h
    exact se_mm ok h1 h2 h3 h4 h5 h6 h7 (sound_Es es ok h7).2
  | .call f es, W, s, X, ex, ok, h => by
    obtain ⟨x, q, l, ls, p, rfl, h1, h2, h3, h4⟩ := chk_call h
    exact se_call ok h1 h2 h3 h4 (sound_Es es ok h4).1
  | .callF f e es, W, s, X, ex, ok, h => by
    obtain ⟨x, q, l, ls, p, rfl, h1, h2, h3, h4, h5, h6⟩ := chk_callF h
    exact se_callF ok h1 h2 h3 h4 h6 (sound_E e ok h5) (sound_Es es ok h6).1
  | .comp tg it cond elt, W, s, X, ex, ok, h => by
    obtain ⟨x, t, i, ifs, scope, p, rfl, h1, h2, h3, h4, h5, h6⟩ := chk_comp h
    exact se_comp ok (sound_It it ok h1) h2 h3 h4 (fun ok' => sound_C cond ok' h5) (fun ok' => sound_E elt ok' h6)
  | .dget2 a k z, W, s, X, ex, ok, h => by
    obtain ⟨l, apos, r, t, cpos, rfl, h1, h2, h3, h4, h5, h6, h7⟩ := chk_dget2 h
    exact se_dget2 ok h1 h2 h3 h4 (sound_E a ok h5) (sound_E k ok h6) (sound_E z ok h7)
  | .td o i .nil, W, s, X, ex, ok, h => by
    rcases chk_td h with ⟨rfl, _, y, q, x, q2, p, rfl, h0, h1, h2, h3, h4⟩ | ⟨rfl, _, y, q, x, q2, p, rfl, h0, h1, h2, h3, h4⟩ | ⟨_, _, e, _⟩ | ⟨_, _, e, _⟩ | ⟨_, _, e, _⟩
    · subst h0
      exact se_tdL ok h1 h2 h3 h4
    · subst h0
      exact se_tdS ok h1 h2 h3 h4
    · cases e
    · cases e
    · cases e
  | .td o i (.cons e es), W, s, X, ex, ok, h => by
    rcases chk_td h with ⟨_, e, _⟩ | ⟨_, e, _⟩ | ⟨rfl, e1, h0, l, x, q2, p, rfl, h1, h2, h3, h4⟩ | ⟨rfl, e1, h0, l, x, q2, p, rfl, h1, h2, h3, h4⟩ | ⟨rfl, e1, h0, l, x, q2, p, rfl, h1, h2, h3, h4, h5⟩
    · cases e
    · cases e
    · cases h0
      exact se_tdIn ok h1 h2 h3 (sound_E e ok h4)
    · cases h0
      exact se_tdNotIn ok h1 h2 h3 (sound_E e ok h4)
    · cases h0
      exact se_tdGet ok h1 h2 h3 (sound_E e ok h4) h5
  | .mr m a b, W, s, X, ex, ok, h => by
    obtain ⟨rfl, l, apos, r, cpos, rfl, h1, h2, h3, h4, h5⟩ := chk_lindex h
    exact se_lindex ok h1 h2 h3 (sound_E a ok h4) (sound_E b ok h5)
  | .inR1 neg x b, W, s, X, ex, ok, h => by
    obtain ⟨l, q, r, p2, p, rfl, h1, h2, h3, h4⟩ := chk_inR1 h
    exact se_inR1 ok h1 h2 (sound_E x ok h3) (sound_E b ok h4)
  | .inR2 neg x a b, W, s, X, ex, ok, h => by
    obtain ⟨l, q, r, t, p2, p, rfl, h1, h2, h3, h4, h5, h6⟩ := chk_inR2 h
    exact se_inR2 ok h1 h2 h3 (sound_E x ok h4) (sound_E a ok h5) (sound_E b ok h6)
  | .rng1 t b, W, s, X, ex, ok, h => by
    obtain ⟨q, q2, l, p2, p, rfl, h1, h2, h3, h4⟩ := chk_rng1 h
    exact se_rng1 ok h1 h2 h3 (sound_E b ok h4)
  | .rng2 t a b, W, s, X, ex, ok, h => by
    obtain ⟨q, q2, l, r, p2, p, rfl, h1, h2, h3, h4, h5, h6⟩ := chk_rng2 h
    exact se_rng2 ok h1 h2 h3 h4 (sound_E a ok h5) (sound_E b ok h6)
theorem sound_Es {G : Cg} {cl : ClsT} {φ : Phi} : (es : Es) → ∀ {W : WX} {s : Sc} {X : Cx} {ls : List Expr}, XOk G cl W φ s X → chkEs G es s ls = true → PA X ls (tAv X.K cl W (evAs φ es)) ∧ PA X ls (tLv X.K cl W (evDs φ es))
  | .nil, W, s, X, ls, ok, h => by
    rw [chkEs_nil h]
    exact sound_Es0
  | .cons e es, W, s, X, ls, ok, h => by
    obtain ⟨l, ls', rfl, h1, h2, h3⟩ := chkEs_cons h
    exact sound_Es1 h1 (sound_E e ok h2) (sound_Es es ok h3)
theorem sound_O {G : Cg} {cl : ClsT} {φ : Phi} : (es : Es) → ∀ {W : WX} {s : Sc} {X : Cx} {x : Option Expr}, XOk G cl W φ s X → chkO G es s x = true → PO X x (tOv X.K cl W (evO φ es))
  | .nil, W, s, X, x, ok, h => by
    cases x with
    | none => exact po_nil
    | some l => cases h
  | .cons e .nil, W, s, X, x, ok, h => by
    cases x with
    | none => cases h
    | some l => exact po_one (sound_E e ok h)
  | .cons e (.cons _ _), W, s, X, x, ok, h => by cases x <;> cases h
theorem sound_C {G : Cg} {cl : ClsT} {φ : Phi} : (es : Es) → ∀ {W : WX} {s : Sc} {X : Cx} {ifs : List Expr}, XOk G cl W φ s X → chkC G es s ifs = true → PTs X ifs (tTv X.K cl W (evC φ es))
  | .nil, W, s, X, ifs, ok, h => by
    cases ifs with
    | nil => exact pts_no
    | cons l ls => cases h
  | .cons e .nil, W, s, X, ifs, ok, h => by
    match ifs, h with
    | [l], h => exact pts_one (sound_E e ok h).2
    | [], h => cases h
    | _ :: _ :: _, h => cases h
  | .cons e (.cons _ _), W, s, X, ifs, ok, h => by
    match ifs, h with
    | [l], h => cases h
    | [], h => cases h
    | _ :: _ :: _, h => cases h
theorem sound_It {G : Cg} {cl : ClsT} {φ : Phi} : (it : It) → ∀ {W : WX} {s : Sc} {X : Cx} {tg i : Expr}, XOk G cl W φ s X → chkIt G it s tg i = true → PI X tg i (tIv X.K cl W (evIt φ it))
  | .seq e, W, s, X, tg, i, ok, h => si_seq (sound_E e ok h)
  | .range es, W, s, X, tg, i, ok, h => by
    unfold chkIt at h
    split at h
    · simp only [Bool.and_eq_true, decide_eq_true_eq] at h
      obtain ⟨⟨⟨rfl, h1⟩, h2⟩, h3⟩ := h
      exact si_range ok h1 h2 h3 (sound_Es es ok h3).1
    · cases h
  | .enum e, W, s, X, tg, i, ok, h => by
    unfold chkIt at h
    split at h
    · simp only [Bool.and_eq_true, decide_eq_true_eq, Bool.not_eq_true'] at h
      obtain ⟨⟨⟨⟨rfl, h1⟩, h2⟩, h3⟩, h4⟩ := h
      exact si_enum ok h1 h2 h3 (sound_E e ok h4)
    · cases h
end
end Ev
/-! Statements keep what they do. -/
namespace Ev
open PySem PySem.Spec PyProof.Rows L2

/-! ### the check -/
def isCompE : E → Bool
  | .comp _ _ _ _ => true
  | _ => false
def opA : Op2 → Bool
  | .add => true
  | .sub => true
  | _ => false
def lineOk (x : Str) (p : Pos) (y : Str) (q : Pos) (a b : Expr) (s : Sc) : Bool := isLoc s x && isLoc s y && decide (p.line = q.line) && decide (x ≠ y) && !isStar a && !isStar b && !(foldedForSure 8 a && foldedForSure 8 b) && !(constantsAlone 8 a && constantsAlone 8 b)
def exAt (l : Exn) (c : Nat) : Option (Str × List Str) := l.lookup c
def chkRaise (G : Cg) (s : Sc) (c : Nat) (es : Es) : Stmt → Bool
  | .Raise (some (.Call (.Name x _) ls [] _)) none _ => (match exAt G.exn c with
      | some (y, nm) => decide (y = x) && decide (es.len = nm.length) && decide (nm.length ≤ 1000)
      | none => false) && isGl s x && nmOk x && chkEs G es s ls
  | _ => false
def fnAt (G : Cg) (f : Nat) (x : Str) : Bool := match G.fna[f]? with
  | some y => decide (y = x)
  | none => false
def chkHE (G : Cg) (s : Sc) (n : Str) : HE → Expr → Bool
  | .nint i, x0 => (match x0 with
    | .UnaryOp .USub (.Constant (.int j) _ _) _ => decide (i = j)
    | _ => false)
  | .str i, x0 => (match x0 with
    | .Constant (.str j) _ _ => decide (i = j)
    | _ => false)
  | .int i, x0 => (match x0 with
    | .Constant (.int j) _ _ => decide (i = j)
    | _ => false)
  | .bl i, x0 => (match x0 with
    | .Constant (.bool j) _ _ => i == j
    | _ => false)
  | .non, x0 => (match x0 with
    | .Constant .none _ _ => true
    | _ => false)
  | .var i, x0 => (match x0 with
    | .Name x _ => isVis s x && nmOk x && atN G i x
    | _ => false)
  | .fld z k j, x0 => (match x0 with
    | .Attribute (.Name y _) z' _ => decide (y = n) && decide (z = z') && (match exAt G.exn k with
      | some (_, nm) => decide (nm[j]? = some z)
      | none => false)
    | _ => false)
  | .kind f tbl, x0 => (match x0 with
    | .Call (.Name x _) [.Name y _] [] _ => fnAt G f x && isGl s x && nmOk x && decide (y = n) && G.hot.kin.any fun p => decide (p = (f, tbl))
    | _ => false)
  | .whole f a, x0 => (match x0 with
    | .Call (.Name x _) [l] [] _ => fnAt G f x && isGl s x && nmOk x && G.hot.who.any (fun p => decide (p = f)) && !isStar l && chkHE G s n a l
    | _ => false)
  | .eq a b, x0 => (match x0 with
    | .Compare l [.Eq] [r] _ => chkHE G s n a l && chkHE G s n b r && !behindInMarks .Eq r
    | _ => false)
  | .ne a b, x0 => (match x0 with
    | .Compare l [.NotEq] [r] _ => chkHE G s n a l && chkHE G s n b r && !behindInMarks .NotEq r
    | _ => false)
  | .isN a, x0 => (match x0 with
    | .Compare l [.Is] [.Constant .none _ _] _ => chkHE G s n a l
    | _ => false)
  | .and a b, x0 => (match x0 with
    | .BoolOp .And (l :: r :: rest) pos => chkHE G s n a l && (match rest with
      | [] => chkHE G s n b r
      | _ :: _ => chkHE G s n b (.BoolOp .And (r :: rest) pos))
    | _ => false)
  | .or a b, x0 => (match x0 with
    | .BoolOp .Or (l :: r :: rest) pos => chkHE G s n a l && (match rest with
      | [] => chkHE G s n b r
      | _ :: _ => chkHE G s n b (.BoolOp .Or (r :: rest) pos))
    | _ => false)
  | .not a, x0 => (match x0 with
    | .UnaryOp .Not l _ => chkHE G s n a l
    | _ => false)
  | .pair a b, x0 => (match x0 with
    | .Tuple [l, r] _ _ => chkHE G s n a l && chkHE G s n b r && !isStar l && !isStar r
    | _ => false)
def chkHS (G : Cg) (s : Sc) (i : Nat) (n : Str) : List HS → List Stmt → Bool
  | [], sts => sts.isEmpty
  | .asg j e :: h, sts => (match sts with
    | .Assign [.Name x _] ex _ :: r => atN G j x && canSet s x && decide (j ≠ i) && chkHE G s n e ex && !isComp ex && chkHS G s i n h r
    | _ => false)
  | .ret e :: h, sts => (match sts with
    | .Return (some ex) _ :: r => chkHE G s n e ex && chkHS G s i n h r
    | _ => false)
  | .ifR k e :: h, sts => (match sts with
    | .If kx [.Return (some ex) _] [] _ :: r => chkHE G s n k kx && chkHE G s n e ex && chkHS G s i n h r
    | _ => false)
def sWeb : Str := "WebError"
def chkCatch (G : Cg) (s : Sc) (i : Nat) (x n : Str) (h : List HS) (hb : List Stmt) : Bool := decide (x = sWeb) && isGl s x && nmOk x && !G.exn.isEmpty && isLoc s n && isVis s n && nmOk n && atN G i n && !hb.isEmpty && chkHS G s i n h hb
mutual
def chkS (G : Cg) (s : Sc) : S → Stmt → Bool
  | .expr e, st => match st with
    | .Expr ex _ => chkE G e s ex && !isComp ex
    | _ => false
  | .asg i e, st => match st with
    | .Assign [.Name x _] ex _ => atN G i x && canSet s x && chkE G e s ex && (!isComp ex || isCompE e)
    | _ => false
  | .asgO i e, st => match st with
    | .Assign [.Name x _] ex _ => atN G i x && canSet s x && chkE G e s ex && (!isComp ex || isCompE e)
    | _ => false
  | .asgT i, st => match st with
    | .Assign [.Name x _] (.Dict [] [] _) _ => atN G i x && canSet s x
    | _ => false
  | .unp i j e, st => match st with
    | .Assign [t] ex _ => isTupE t && chkTg G s (.two i j) t && chkE G e s ex && !isComp ex && !isTupE ex
    | _ => false
  | .par i j a b, st => match st with
    | .Assign [.Tuple [.Name x p, .Name y q] _ _] (.Tuple [l, r] _ _) _ => atN G i x && atN G j y && decide (i ≠ j) && lineOk x p y q l r s && chkE G a s l && chkE G b s r
    | _ => false
  | .set i k e, st => match st with
    | .Assign [.Subscript (.Name x _) kx _] ex _ => isVis s x && nmOk x && atN G i x && chkE G k s kx && chkE G e s ex && !isComp ex && !isSlice kx
    | _ => false
  | .dset i k e, st => match st with
    | .Assign [.Subscript (.Name x _) kx _] ex _ => isVis s x && nmOk x && atN G i x && chkE G k s kx && chkE G e s ex && !isComp ex && !isSlice kx
    | _ => false
  | .aug i o e, st => match st with
    | .AugAssign (.Name x _) op ex _ => atN G i x && canSet s x && opA o && decide (op = opr o) && chkE G e s ex
    | _ => false
  | .iff c t f, st => match st with
    | .If cx tx fx _ => chkE G c s cx && chkSs G s t tx && chkSs G s f fx
    | _ => false
  | .for_ tg it b, st => match st with
    | .For t i bx [] _ => chkTg G s tg t && chkIt G it s t i && !isSetE i && chkSs G s b bx
    | _ => false
  | .while_ _ c b, st => match st with
    | .While cx bx [] _ => chkE G c s cx && chkSs G s b bx
    | _ => false
  | .ret e, st => match st with
    | .Return (some ex) _ => chkE G e s ex
    | .Return none _ => (match e with
      | .non => true
      | _ => false)
    | _ => false
  | .pass, st => match st with
    | .Pass _ => true
    | .Expr (.Constant (.str _) _ _) _ => true
    | _ => false
  | .raise_ c es, st => chkRaise G s c es st
  | .try_ b i h, st => (match st with
    | .Try body [.ExceptHandler (some (.Name x _)) (some n) hb _] [] [] _ => chkCatch G s i x n h hb && chkSs G s b body
    | _ => false)
  | .never, _ => true
def chkSs (G : Cg) (s : Sc) : Ss → List Stmt → Bool
  | .nil, sts => sts.isEmpty
  | .cons x xs, sts => match sts with
    | st :: r => chkS G s x st && chkSs G s xs r
    | [] => false
end

/-! ### what is wanted behind -/
def RetOk (K : PySem.W.Frag) (A : Addr → Prop) (σ : Sg) (r : Rho) (H : Hp) (v : V) (σ' : Sg) (H' : Hp) (d : D) (fr : Bool) (r' : Rho) : Prop := Stq σ r H σ' r' H' ∧ match fr with
  | false => Rl K A σ' H' r' ∧ Rep (Av A σ' r') H' v d
  | true => ∃ p, v = .ref p ∧ (H p = none ∨ Mine σ r p) ∧ ¬ Own σ' r' p ∧ Rl K (And1 A p) σ' H' r' ∧ ObD (Av (And1 A p) σ' r') H' p d
def PostS (K : PySem.W.Frag) (cl : ClsT) (W : WX) (A : Addr → Prop) (σ : Sg) (r : Rho) (H : Hp) (D : Ends) : SR → Prop
  | .next r' => ∀ σ' H', Stq σ r H σ' r' H' → Rl K A σ' H' r' → D.nx σ' H'
  | .ret d fr r' => ∀ v σ' H', RetOk K A σ r H v σ' H' d fr r' → D.rt v H'
  | .exc c fs r' => ∀ C dx σ' H', Stq σ r H σ' r' H' → Rl K A σ' H' r' → ExOk cl (Av A σ' r') H' c fs C dx → W (.ref C) dx σ' H'
  | .stuck => False
def tSv (K : PySem.W.Frag) (cl : ClsT) (W : WX) (ev : Rho → SR) : TS := fun D σ H => ∃ A r, Rl K A σ H r ∧ PostS K cl W A σ r H D (ev r)
theorem PS.imp' {X : Cx} {e : Stmt} {t t' : TS} (h : PS X e t) (k : ∀ D σ H, t' D σ H → t D σ H) : PS X e t' := ⟨fun pins s σ H D I q => h.run pins s σ H D I (k _ _ _ q)⟩
theorem PSs.imp' {X : Cx} {e : List Stmt} {t t' : TS} (h : PSs X e t) (k : ∀ D σ H, t' D σ H → t D σ H) : PSs X e t' := ⟨fun pins s σ H D I q => h.run pins s σ H D I (k _ _ _ q)⟩
section
variable {K : PySem.W.Frag} {cl : ClsT} {W : WX} {A A1 : Addr → Prop} {σ σ1 : Sg} {r r1 : Rho} {H H1 : Hp} {D : Ends}
theorem PostS.back {res : SR} (s : Stq σ r H σ1 r1 H1) (h : ∀ p, A p → A1 p) (q : PostS K cl W A σ r H D res) : PostS K cl W A1 σ1 r1 H1 D res := by
  cases res with
  | stuck => exact q
  | next r' => exact fun σ' H' s' R => q σ' H' (s.trans s') (R.mono h)
  | exc c fs r' => exact fun C dx σ' H' s' R x => q C dx σ' H' (s.trans s') (R.mono h) (x.mono (Av.mono h fun _ z => z))
  | ret d fr r' =>
    intro v σ' H' ok
    refine q v σ' H' ?_
    obtain ⟨s', ok⟩ := ok
    refine ⟨s.trans s', ?_⟩
    cases fr with
    | false => exact ⟨ok.1.mono h, ok.2.mono (Av.mono h fun _ z => z)⟩
    | true =>
      obtain ⟨p, e, hp, no, R, o⟩ := ok
      have k : ∀ q, And1 A p q → And1 A1 p q := fun q z => z.imp (h q) id
      refine ⟨p, e, ?_, no, R.mono k, o.mono (Av.mono k fun _ z => z)⟩
      rcases hp with hp | hp
      · exact .inl (s.none hp)
      · exact (s.mine p hp).elim .inr .inl
theorem PostS.ofX {c : Nat} {fs : List PyData} {r' : Rho} (q : PostS K cl W A σ r H D (.exc c fs r')) : PostX K cl W A σ r H c fs r' := fun C dx H' s' R x => q C dx σ H' s'.q R x
theorem PostS.bind {x : R AV} {f : AV → Rho → SR} (h : PostS K cl W A σ r H D (stR x f)) :
    PostE K cl W A σ r H (fun v H1 => ∃ A1 r1 a, OkE K A σ r H v H1 a r1 ∧ Rl K A1 σ H1 r1 ∧ HV K A1 σ H1 r1 v a ∧ (∀ u y, HV K A σ H r u y → HV K A1 σ H1 r1 u y) ∧ PostS K cl W A1 σ r1 H1 D (f a r1)) x := by
  cases x with
  | stuck => exact h
  | exc c fs r' => exact h.ofX
  | ok a r1 =>
    intro v H1 ok
    obtain ⟨A1, h1, g1, s1, R1, q1⟩ := ok.hold
    exact ⟨A1, r1, a, ok, R1, q1, fun u y q => q.step s1 h1 g1, PostS.back s1.q h1 h⟩
theorem PostS.bindD {x : R PyData} {f : PyData → Rho → SR} (h : PostS K cl W A σ r H D (stR x f)) :
    PostD K cl W A σ r H (fun v H1 => ∃ r1 a, Rl K A σ H1 r1 ∧ Rep (Av A σ r1) H1 v a ∧ Stp σ r r1 H H1 ∧ PostS K cl W A σ r1 H1 D (f a r1)) x := by
  cases x with
  | stuck => exact h
  | exc c fs r' => exact h.ofX
  | ok a r1 => exact fun v H1 s1 R1 q1 => ⟨r1, a, R1, q1, s1, PostS.back s1.q (fun _ z => z) h⟩
theorem PostS.bindT {x : R Bool} {f : Bool → Rho → SR} (h : PostS K cl W A σ r H D (stR x f)) :
    PostT K cl W A σ r H (fun k H1 => ∃ r1, Rl K A σ H1 r1 ∧ PostS K cl W A σ r1 H1 D (f k r1)) x := by
  cases x with
  | stuck => exact h
  | exc c fs r' => exact h.ofX
  | ok a r1 => exact fun H1 s1 R1 => ⟨r1, R1, PostS.back s1.q (fun _ z => z) h⟩
theorem PostD.mono {Q Q' : V → Hp → Prop} {x : R PyData} (h : PostD K cl W A σ r H Q x) (k : ∀ v H', Q v H' → Q' v H') : PostD K cl W A σ r H Q' x := by
  cases x with
  | stuck => exact h
  | exc c fs r' => exact h
  | ok a r1 => exact fun v H1 s1 R1 q => k _ _ (h v H1 s1 R1 q)
/-- a new object becomes a variable's -/
theorem Rl.putO {i : Nat} {p : Addr} {o : Ob} (R : Rl K (And1 A p) σ H r) (no : ¬ Own σ r p) (hp : ¬ A p) (ob : ObRep (Av (And1 A p) σ r) H p o) : Rl K A (σ.set i (some (.ref p))) H (r.set i (some (.own o true))) ∧
    (∀ q, Own (σ.set i (some (.ref p))) (r.set i (some (.own o true))) q → Own σ r q ∨ q = p) ∧ (∀ (j : Nat) (o' : Ob), (r.set i (some (SV.own o true)))[j]? = some (some (SV.own o' false)) → r[j]? = some (some (SV.own o' false)) ∧ (σ.set i (some (V.ref p)))[j]? = σ[j]?) ∧
    (∀ q, Mine (σ.set i (some (.ref p))) (r.set i (some (.own o true))) q → Mine σ r q ∨ q = p) := by
  have slot : ∀ (j : Nat) (o' : Ob) (m : Bool), (r.set i (some (.own o true)))[j]? = some (some (.own o' m)) → (i = j ∧ i < r.length ∧ o' = o ∧ m = true ∧ (σ.set i (some (.ref p)))[j]? = some (some (.ref p))) ∨ (i ≠ j ∧ r[j]? = some (some (.own o' m)) ∧ (σ.set i (some (.ref p)))[j]? = σ[j]?) := fun j o' m h => by
    by_cases e : i = j
    · subst e
      by_cases hl : i < r.length
      · rw [List.getElem?_set_self hl] at h
        cases h
        exact .inl ⟨rfl, hl, rfl, rfl, List.getElem?_set_self (by rw [R.len]; exact hl)⟩
      · rw [List.getElem?_eq_none (by rw [List.length_set]; omega)] at h
        cases h
    · rw [List.getElem?_set_ne e] at h
      exact .inr ⟨e, h, List.getElem?_set_ne e⟩
  have own : ∀ q, Own (σ.set i (some (.ref p))) (r.set i (some (.own o true))) q → Own σ r q ∨ q = p := fun q ⟨j, o', m, h1, h2⟩ => by
    rcases slot j o' m h1 with ⟨_, _, _, _, h3⟩ | ⟨_, h3, h4⟩
    · rw [h3] at h2
      cases h2
      exact .inr rfl
    · rw [h4] at h2
      exact .inl ⟨j, o', m, h3, h2⟩
  have sub : ∀ q, Av A (σ.set i (some (.ref p))) (r.set i (some (.own o true))) q → Av (And1 A p) σ r q := fun q z => z.elim (fun z => .inl (.inl z)) fun z => (own q z).elim .inr fun z => .inl (.inr z)
  have alp : H p ≠ none := R.al.ne (.inr rfl)
  refine ⟨⟨by rw [List.length_set, List.length_set]; exact R.len, fun j y h => ?_, fun j o' m h => ?_, fun j y h => ?_, fun j j' o1 m1 o2 m2 q h1 h2 h3 h4 => ?_, fun q z => R.al q (.inl z)⟩, own, fun j o' h => ?_, fun q ⟨j, o', h1, h2⟩ => ?_⟩
  · have h' : i ≠ j ∧ r[j]? = some (some (.d y)) := by
      by_cases e : i = j
      · subst e
        by_cases hl : i < r.length
        · rw [List.getElem?_set_self hl] at h
          cases h
        · rw [List.getElem?_eq_none (by rw [List.length_set]; omega)] at h
          cases h
      · rw [List.getElem?_set_ne e] at h
        exact ⟨e, h⟩
    obtain ⟨v, h1, h2⟩ := R.d j y h'.2
    exact ⟨v, by rw [List.getElem?_set_ne h'.1]; exact h1, h2.mono sub⟩
  · rcases slot j o' m h with ⟨_, _, rfl, rfl, h3⟩ | ⟨_, h3, h4⟩
    · exact ⟨p, h3, ob.mono sub, fun _ => hp⟩
    · obtain ⟨q, h5, h6, h7⟩ := R.own j o' m h3
      exact ⟨q, by rw [h4]; exact h5, h6.mono sub, fun z y => h7 z (.inl y)⟩
  · have h' : i ≠ j ∧ r[j]? = some (some (.ro y)) := by
      by_cases e : i = j
      · subst e
        by_cases hl : i < r.length
        · rw [List.getElem?_set_self hl] at h
          cases h
        · rw [List.getElem?_eq_none (by rw [List.length_set]; omega)] at h
          cases h
      · rw [List.getElem?_set_ne e] at h
        exact ⟨e, h⟩
    obtain ⟨v, h1, h2⟩ := R.ro j y h'.2
    exact ⟨v, by rw [List.getElem?_set_ne h'.1]; exact h1, h2.mono sub⟩
  · rcases slot j o1 m1 h1 with ⟨e1, _, _, _, h5⟩ | ⟨_, h5, h6⟩
    · rcases slot j' o2 m2 h2 with ⟨e2, _⟩ | ⟨_, h7, h8⟩
      · rw [← e1, ← e2]
      · rw [h5] at h3
        cases h3
        rw [h8] at h4
        exact absurd ⟨j', o2, m2, h7, h4⟩ no
    · rcases slot j' o2 m2 h2 with ⟨e2, _, _, _, h7⟩ | ⟨_, h7, h8⟩
      · rw [h7] at h4
        cases h4
        rw [h6] at h3
        exact absurd ⟨j, o1, m1, h5, h3⟩ no
      · rw [h6] at h3
        rw [h8] at h4
        exact R.inj j j' o1 m1 o2 m2 q h5 h7 h3 h4
  · rcases slot j o' false h with ⟨_, _, _, e, _⟩ | ⟨_, h3, h4⟩
    · cases e
    · exact ⟨h3, h4⟩
  · rcases slot j o' true h1 with ⟨_, _, _, _, h3⟩ | ⟨_, h3, h4⟩
    · rw [h3] at h2
      cases h2
      exact .inr rfl
    · rw [h4] at h2
      exact .inl ⟨j, o', h3, h2⟩
end

/-! ### names set -/
section
variable {G : Cg} {cl : ClsT} {W : WX} {φ : Phi} {s : Sc} {X : Cx}
theorem swaps_no {v : Expr} {t : Option Expr} {l : Nat} {env : Env} (h : isComp v = false) : swapsWith v t l env = pure false := by
  cases v <;> first | rfl | cases h
theorem chk_ne (ok : XOk G cl W φ s X) : X.N.Nodup := by rw [ok.n]; exact ok.nd
/-- name = any expression -/
theorem ss_name (ok : XOk G cl W φ s X) {i : Nat} {x : Str} {p : Pos} {e : E} {ex : Expr} {pos : Pos} (h1 : atN G i x = true) (h2 : canSet s x = true) (h3 : chkE G e s ex = true) (h4 : (!isComp ex || isCompE e) = true) : PS X (.Assign [.Name x p] ex pos) (tAsg (tEv X.K cl W (evP φ e).1) (gName i)) := by
  obtain ⟨hl, hf⟩ := ok.set_ h2
  by_cases hc : isComp ex = true
  · rw [hc] at h4
    cases e <;> try (cases h4; done)
    rename_i tg it cond elt
    obtain ⟨ey, t, i', ifs, scope, p', rfl, g1, g2, g3, g4, g5, g6⟩ := chk_comp h3
    have sw : ∃ b, swapsWith (.ListComp ey [⟨t, i', ifs, 0⟩] scope p') (some (.Name x p)) pos.line X.env = pure b ∧ (b = true → X.env.scope.names.lookup x = some .local) := by
      refine ⟨_, rfl, fun hb => ?_⟩
      simp only [Bool.and_eq_true, beq_iff_eq] at hb
      exact hb.1.1.2
    obtain ⟨b, eb, hb⟩ := sw
    cases b with
    | false => exact ps_set (chk_ne ok) (ok.at_ h1) hl (sound_E _ ok h3).1 eb hf
    | true =>
      have hi := sound_It it ok g1
      have bo : BlkOk X.N X.env.scope scope (tgOwn tg t) := by
        rw [ok.n, ok.sc]
        exact blkOk_by g3
      have es : (tgOwn tg t).map (·.2) = tg.slots := (pg_tg (ok.blk bo.kind X.s_0 X.H_0 X.env.locals [] []) g4).2
      have go := ps_setLc (spos := pos) (pos := p') (elt := ey) (ifs := ifs) (g := gT X.K tg) (tt := tTv X.K cl Wf (evC φ cond)) (te := tDv X.K cl Wf (dof (evP φ elt).1)) ok.calm (chk_ne ok) (ok.at_ h1) (hb rfl) eb hi bo
        (fun s0 H C cs fp => (pg_tg (ok.blk bo.kind s0 H C cs fp) g4).1) (fun s0 H C cs fp => sound_C cond (ok.blk bo.kind s0 H C cs fp) g5) (fun s0 H C cs fp => PE.imp' (sound_E elt (ok.blk bo.kind s0 H C cs fp) g6).1 te_dof) (fold_of g2)
      rw [es] at go
      exact PS.imp' go fun D σ H h => te_comp _ _ _ h
  · exact ps_set (chk_ne ok) (ok.at_ h1) hl (sound_E _ ok h3).1 (swaps_no (by simpa using hc)) hf
theorem ss_asg (ok : XOk G cl W φ s X) {i : Nat} {x : Str} {p : Pos} {e : E} {ex : Expr} {pos : Pos} (h1 : atN G i x = true) (h2 : canSet s x = true) (h3 : chkE G e s ex = true) (h4 : (!isComp ex || isCompE e) = true) : PS X (.Assign [.Name x p] ex pos) (tSv X.K cl W (evS φ (.asg i e))) := by
  refine PS.imp' (ss_name ok h1 h2 h3 h4) ?_
  rintro D σ H ⟨A, r, R, h⟩
  unfold evS at h
  refine te_dof (ev := (evP φ e).1) σ H _ ⟨A, r, R, (PostS.bindD h).mono ?_⟩
  rintro v H1 ⟨r1, a, R1, q1, s1, h1⟩
  obtain ⟨g1, g2, g3⟩ := R1.put (i := i) q1
  exact h1 _ _ g2 g1
theorem ss_asgO (ok : XOk G cl W φ s X) {i : Nat} {x : Str} {p : Pos} {e : E} {ex : Expr} {pos : Pos} (h1 : atN G i x = true) (h2 : canSet s x = true) (h3 : chkE G e s ex = true) (h4 : (!isComp ex || isCompE e) = true) : PS X (.Assign [.Name x p] ex pos) (tSv X.K cl W (evS φ (.asgO i e))) := by
  refine PS.imp' (ss_name ok h1 h2 h3 h4) ?_
  rintro D σ H ⟨A, r, R, h⟩
  unfold evS at h
  refine ⟨A, r, R, ?_⟩
  have h : PostS X.K cl W A σ r H D (stR ((evP φ e).1 r) fun x r1 => asgV i x r1) := h
  generalize (evP φ e).1 r = ra at h ⊢
  cases ra with
  | stuck => exact h
  | exc c fs r' => exact h.ofX
  | ok a r1 =>
    intro v H1 okE
    have h : PostS X.K cl W A σ r H D (asgV i a r1) := h
    have go : ∀ (x : PyData) (o : Ob), OkE X.K A σ r H v H1 (.d x true) r1 → (∀ B p, ObD B H1 p x → ObRep B H1 p o) → PostS X.K cl W A σ r H D (.next (r1.set i (some (.own o true)))) → gName i v σ H1 D.nx := by
      rintro x o ⟨s1, p, rfl, hp, no, R1, ob⟩ hob h
      obtain ⟨g1, g2, g3, g4⟩ := R1.putO (i := i) no (fun z => R.al.ne z hp) (hob _ _ ob)
      refine h _ H1 ⟨s1.keep, s1.live, fun q z => (g2 q z).imp (s1.own q) (fun z => by rw [z]; exact hp), fun j o' z => ?_, fun q z => ?_⟩ g1
      · obtain ⟨z1, z2⟩ := g3 j o' z
        exact ⟨s1.slot j o' false z1, z2⟩
      · rcases g4 q z with z | z
        · exact s1.q.mine q z
        · exact .inr (by rw [z]; exact hp)
    match a, okE, h with
    | .d (.list xs) true, okE, h => exact go (.list xs) (.lst xs) okE (fun B p z => z) h
    | .d (.dict xs) true, okE, h => exact go (.dict xs) (.dk xs) okE (fun B p z => z) h
    | .d .none _, _, h => exact h.elim
    | .d (.bool _) _, _, h => exact h.elim
    | .d (.int _) _, _, h => exact h.elim
    | .d (.str _) _, _, h => exact h.elim
    | .d (.tuple _) _, _, h => exact h.elim
    | .d (.list _) false, _, h => exact h.elim
    | .d (.dict _) false, _, h => exact h.elim
    | .var _, _, h => exact h.elim
    | .cst _, _, h => exact h.elim
theorem ss_asgT (ok : XOk G cl W φ s X) {i : Nat} {x : Str} {p p2 : Pos} {pos : Pos} (h1 : atN G i x = true) (h2 : canSet s x = true) : PS X (.Assign [.Name x p] (.Dict [] [] p2) pos) (tSv X.K cl W (evS φ (.asgT i))) := by
  obtain ⟨hl, hf⟩ := ok.set_ h2
  refine PS.imp' (ps_set (chk_ne ok) (ok.at_ h1) hl pe_dnewT (swaps_no rfl) hf) ?_
  rintro D σ H ⟨A, r, R, h⟩
  unfold evS at h
  intro p hp
  have g : ∀ q u, H q = some u → upd H p (.dT []) q = some u := fun q u e => Ev.grow hp q u e
  have np : 2 ≤ lvl (upd H p (.dT []) p) := by rw [upd_same]; exact Nat.le_refl 2
  obtain ⟨g1, g2, g3, g4⟩ := (R.and1 g hp np).putO (i := i) (o := .dt []) (fun z => R.own_some z hp) (fun z => R.al.ne z hp) ⟨[], upd_same, .nil⟩
  refine h _ _ ⟨fun q u e _ => g q u e, lvl_grow g, fun q z => (g2 q z).imp id (fun z => by rw [z]; exact hp), fun j o' z => let ⟨z1, z2⟩ := g3 j o' z; ⟨⟨o', z1⟩, z2⟩, fun q z => (g4 q z).imp id (fun z => by rw [z]; exact hp)⟩ g1
end
end Ev
/-! Statements keep what they do: the rest. -/
namespace Ev
open PySem PySem.Spec PyProof.Rows L2
section
variable {G : Cg} {cl : ClsT} {W : WX} {φ : Phi} {s : Sc} {X : Cx}
theorem ss_expr (ok : XOk G cl W φ s X) {e : E} {ex : Expr} {pos : Pos} (h1 : chkE G e s ex = true) (h2 : isComp ex = false) : PS X (.Expr ex pos) (tSv X.K cl W (evS φ (.expr e))) := by
  refine PS.imp' (ps_expr (sound_E e ok h1).1 (swaps_no h2)) ?_
  rintro D σ H ⟨A, r, R, h⟩
  unfold evS at h
  refine ⟨A, r, R, (PostS.bind h).mono ?_⟩
  rintro v H1 ⟨A1, r1, a, _, R1, _, _, h1⟩
  exact h1 _ _ .refl R1
theorem ss_unp (ok : XOk G cl W φ s X) {i j : Nat} {e : E} {t ex : Expr} {pos : Pos} (h0 : isTupE t = true) (h1 : chkTg G s (.two i j) t = true) (h2 : chkE G e s ex = true) (h3 : isComp ex = false) (h4 : isTupE ex = false) : PS X (.Assign [t] ex pos) (tSv X.K cl W (evS φ (.unp i j e))) := by
  have hw : swappedStores [t] ex X.env = pure none := by
    cases t <;> try (cases h0; done)
    cases ex <;> first | rfl | cases h4
  have ha : (assignEach [t] X.env).map (·.2) = [assign t X.env] := by
    cases t <;> try (cases h0; done)
    rfl
  refine PS.imp' (ps_asg (sound_E e ok h2).1 (pg_tg ok h1).1 (swaps_no h3) hw ha) ?_
  rintro D σ H ⟨A, r, R, h⟩
  unfold evS at h
  refine ⟨A, r, R, (PostS.bind h).mono ?_⟩
  rintro v H1 ⟨A1, r1, x, _, R1, q1, _, h1⟩
  unfold unpV at h1
  split at h1
  · rename_i a b e1
    obtain ⟨p, vs, rfl, na, hp, rl⟩ := rd_ok R1 q1 e1
    cases rl with
    | cons ra rl =>
      cases rl with
      | cons rb rl =>
        cases rl
        rename_i u w
        obtain ⟨k1, k2, k3⟩ := R1.put (i := i) ra
        obtain ⟨g1, g2, g3⟩ := k1.put (i := j) (rb.mono fun q z => z.imp id (k3 q))
        exact ⟨p, [u, w], rfl, .of hp, rfl, u, [w], rfl, w, [], rfl, rfl, h1 _ _ (k2.trans g2) g1⟩
  · exact h1.elim
theorem swapped_two {x y : Str} {p q pt pt2 : Pos} {k k2 : Nat} {a b : Expr} {env : Env} (hb : env.blockKind = .function) (hx : env.kindOf x = some .local) (hy : env.kindOf y = some .local) (hl : p.line = q.line) (ne : x ≠ y) (h1 : isStar a = false) (h2 : isStar b = false)
    (h3 : (foldedForSure 8 a && foldedForSure 8 b) = false) (h4 : (constantsAlone 8 a && constantsAlone 8 b) = false) : swappedStores [.Tuple [.Name x p, .Name y q] k pt] (.Tuple [a, b] k2 pt2) env = pure (some [x, y]) := by
  have e2 : [a, b].all (foldedForSure 8) = false := by simpa using h3
  have e3 : [a, b].all (constantsAlone 8) = false := by simpa using h4
  have n1 : (y == x) = false := by simpa using fun e => ne e.symm
  have e4 : ([x, y].eraseDups).length = 2 := by
    simp [List.eraseDups_cons, List.filter, n1]
  unfold swappedStores
  simp [hb, hx, hy, hl, Expr.pos, e4]
  rw [if_neg ?_, if_neg ?_, if_neg ?_]
  · rw [← Bool.and_eq_true, h4]
    decide
  · rw [← Bool.and_eq_true, h3]
    decide
  · rintro (z | z)
    · cases a <;> first | (cases h1; done) | cases z
    · cases b <;> first | (cases h2; done) | cases z
theorem ss_par (ok : XOk G cl W φ s X) {i j : Nat} {a b : E} {x y : Str} {p q pt pt2 pos : Pos} {k k2 : Nat} {l r : Expr} (h1 : atN G i x = true) (h2 : atN G j y = true) (hij : i ≠ j) (h3 : lineOk x p y q l r s = true) (h4 : chkE G a s l = true) (h5 : chkE G b s r = true) :
    PS X (.Assign [.Tuple [.Name x p, .Name y q] k pt] (.Tuple [l, r] k2 pt2) pos) (tSv X.K cl W (evS φ (.par i j a b))) := by
  unfold lineOk at h3
  simp only [Bool.and_eq_true, decide_eq_true_eq, Bool.not_eq_true'] at h3
  obtain ⟨⟨⟨⟨⟨⟨⟨g1, g2⟩, g3⟩, g4⟩, g5⟩, g6⟩, g7⟩, g8⟩ := h3
  have loc : ∀ {x : Str}, isLoc s x = true → X.env.scope.names.lookup x = some .local := fun {x} h => by
    unfold isLoc kd at h
    rw [ok.sc]
    split at h
    · assumption
    · cases h
  have hb : X.env.blockKind = .function := by
    unfold Env.blockKind
    rw [ok.sc, ok.kind]
    rfl
  have pa : PA X [l, r] (tLv X.K cl W (evDs φ (.cons a (.cons b .nil)))) := by
    refine PA.imp' (pa_cons (PE.imp' (sound_E a ok h4).1 te_dof) (PA.imp' (pa_cons (PE.imp' (sound_E b ok h5).1 te_dof) pa_nil (star_cons g6)) fun σ H Q h => ?_) (star_cons g5)) ta_consL
    exact ta_consL (evs := evDs φ .nil) σ H Q h |> fun z => by
      obtain ⟨A, r, R, z⟩ := z
      refine ⟨A, r, R, z.mono fun v H1 h1 => ?_⟩
      obtain ⟨A1, r1, R1, h1⟩ := h1
      exact h1 [] H1 .refl R1 .nil
  refine PS.imp' (ps_par (pos := pos) ok.calm (chk_ne ok) (ok.at_ h1) (ok.at_ h2) hij (loc g1) (loc g2) pa (swapped_two hb (loc g1) (loc g2) g3 g4 g5 g6 g7 g8)) ?_
  rintro D σ H ⟨A, r0, R, h⟩
  unfold evS at h
  refine ⟨A, r0, R, ?_⟩
  have h : PostS X.K cl W A σ r0 H D (stR (evD φ a r0) fun x r1 => stR (evD φ b r1) fun y r2 => .next ((r2.set i (some (.d x))).set j (some (.d y)))) := h
  show PostL X.K cl W A σ r0 H _ ((evD φ a r0).bind fun x r1 => ((evD φ b r1).bind fun y r2 => (Ev.R.ok ([] : List PyData) r2).bind fun ys r3 => .ok (y :: ys) r3).bind fun xs r2 => .ok (x :: xs) r2)
  cases ea : evD φ a r0 with
  | stuck => rw [ea] at h; exact h
  | exc c fs r1 => rw [ea] at h; exact h.ofX
  | ok x1 r1 =>
    rw [ea] at h
    have h : PostS X.K cl W A σ r0 H D (stR (evD φ b r1) fun y r2 => .next ((r2.set i (some (.d x1))).set j (some (.d y)))) := h
    simp only [Ev.R.bind]
    cases eb : evD φ b r1 with
    | stuck => rw [eb] at h; exact h
    | exc c fs r2 => rw [eb] at h; exact h.ofX
    | ok y1 r2 =>
      rw [eb] at h
      intro vs H1 s1 R1 q1
      cases q1 with
      | cons ra q1 =>
        cases q1 with
        | cons rb q1 =>
          cases q1
          rename_i u w
          obtain ⟨k1, k2, k3⟩ := R1.put (i := i) ra
          obtain ⟨m1, m2, m3⟩ := k1.put (i := j) (rb.mono fun q z => z.imp id (k3 q))
          exact ⟨u, w, rfl, h _ _ ((s1.q.trans k2).trans m2) m1⟩
end
end Ev
/-! Statements keep what they do: items, loops, returns. -/
namespace Ev
open PySem PySem.Spec PyProof.Rows L2
section
variable {K : PySem.W.Frag} {cl : ClsT} {W : WX} {A A1 : Addr → Prop} {σ σ1 : Sg} {r r1 : Rho} {H H1 : Hp} {D : Ends}
theorem ownA_of {i : Nat} (h : ownA r i = true) : ∃ o m, r[i]? = some (some (.own o m)) := by
  unfold ownA at h
  split at h
  · rename_i o m e
    exact ⟨o, m, e⟩
  · cases h
theorem own_addr {i : Nat} {o o' : Ob} {m m' : Bool} {p : Addr} (R : Rl K A σ H r) (e : r[i]? = some (some (.own o m))) (es : σ[i]? = some (some (.ref p))) : ObRep (Av A σ r) H p o := by
  obtain ⟨q, h1, h2, _⟩ := R.own i o m e
  rw [es] at h1
  cases h1
  exact h2
theorem set_of {i : Nat} {x : PyData} {y : AV} {p : Addr} {v u : V} (R : Rl K A σ H r) (es : σ[i]? = some (some (.ref p))) (rv : Rep (Av A σ r) H v x) (q : HV K A σ H r u y) (h : PostS K cl W A σ r H D (setV i x y r)) : rSetL (.ref p) u v H fun H' => D.nx σ H' := by
  unfold setV at h
  split at h
  · rename_i xs m n f e
    split at h
    · rename_i j ej
      obtain ⟨vs, h1, h2⟩ := own_addr (o' := .lst xs) (m' := m) R e es
      have own : Av A σ r p := .inr ⟨i, _, _, e, es⟩
      obtain ⟨st, R2⟩ := R.mut (o' := .lst (xs.set j x)) (ho := .lst (vs.set j v)) e es ⟨_, upd_same, (h2.upd own).set (rv.upd own) j⟩
      exact ⟨p, vs, n, j, rfl, hv_int q, h1, by rw [h2.length]; exact ej, h _ _ st.q R2⟩
    · exact h.elim
  · exact h.elim

/-! ### dicts -/
theorem RepK.any {k : Key} : ∀ {ws : List (Key × V)} {kvs : List (PyData × PyData)}, RepK A H ws kvs → (ws.any fun kv => decide (kv.1 = k)) = kvs.any fun p => sameD p.1 (keyDt k)
  | _, _, .nil => rfl
  | _, _, .cons (k := a) h t => by
    rw [List.any_cons, List.any_cons, RepK.any t, sameD_key]
theorem RepK.map_put {k : Key} {v : V} {x : PyData} (rv : Rep A H v x) : ∀ {ws : List (Key × V)} {kvs : List (PyData × PyData)}, RepK A H ws kvs → RepK A H (ws.map fun kv => if kv.1 = k then (kv.1, v) else kv) (kvs.map fun p => if sameD p.1 (keyDt k) then (p.1, x) else p)
  | _, _, .nil => .nil
  | _, _, .cons (k := a) h t => by
    rw [List.map_cons, List.map_cons]
    have e : sameD (keyDt a) (keyDt k) = decide (a = k) := sameD_key a k
    simp only [e]
    by_cases z : a = k
    · rw [if_pos z, if_pos (by simp [z])]
      exact .cons rv (RepK.map_put rv t)
    · rw [if_neg z, if_neg (by simp [z])]
      exact .cons h (RepK.map_put rv t)
theorem RepK.snoc {k : Key} {v : V} {x : PyData} (rv : Rep A H v x) : ∀ {ws : List (Key × V)} {kvs : List (PyData × PyData)}, RepK A H ws kvs → RepK A H (ws ++ [(k, v)]) (kvs ++ [(keyDt k, x)])
  | _, _, .nil => .cons rv .nil
  | _, _, .cons h t => .cons h (RepK.snoc rv t)
theorem RepK.put {k : Key} {v : V} {x : PyData} {ws : List (Key × V)} {kvs : List (PyData × PyData)} (r : RepK A H ws kvs) (rv : Rep A H v x) : RepK A H (putK ws k v) (dput (keyDt k) x kvs) := by
  unfold putK dput
  rw [r.any (k := k)]
  split
  · exact r.map_put rv
  · exact r.snoc rv
theorem RepT.length : ∀ {ws : List (List Key × V)} {kvs : List (PyData × PyData)}, RepT A H ws kvs → ws.length = kvs.length
  | _, _, .nil => rfl
  | _, _, .cons _ t => congrArg Nat.succ (RepT.length t)
theorem RepT.any {k : List Key} : ∀ {ws : List (List Key × V)} {kvs : List (PyData × PyData)}, RepT A H ws kvs → (ws.any fun kv => decide (kv.1 = k)) = kvs.any fun p => sameD p.1 (.tuple (k.map keyDt))
  | _, _, .nil => rfl
  | _, _, .cons (k := a) h t => by
    rw [List.any_cons, List.any_cons, RepT.any t, sameT_key]
theorem RepT.map_put {k : List Key} {v : V} {x : PyData} (rv : Rep A H v x) : ∀ {ws : List (List Key × V)} {kvs : List (PyData × PyData)}, RepT A H ws kvs → RepT A H (ws.map fun kv => if kv.1 = k then (kv.1, v) else kv) (kvs.map fun p => if sameD p.1 (.tuple (k.map keyDt)) then (p.1, x) else p)
  | _, _, .nil => .nil
  | _, _, .cons (k := a) h t => by
    rw [List.map_cons, List.map_cons]
    have e : sameD (.tuple (a.map keyDt)) (.tuple (k.map keyDt)) = decide (a = k) := sameT_key a k
    simp only [e]
    by_cases z : a = k
    · rw [if_pos z, if_pos (by simp [z])]
      exact .cons rv (RepT.map_put rv t)
    · rw [if_neg z, if_neg (by simp [z])]
      exact .cons h (RepT.map_put rv t)
theorem RepT.snoc {k : List Key} {v : V} {x : PyData} (rv : Rep A H v x) : ∀ {ws : List (List Key × V)} {kvs : List (PyData × PyData)}, RepT A H ws kvs → RepT A H (ws ++ [(k, v)]) (kvs ++ [(.tuple (k.map keyDt), x)])
  | _, _, .nil => .cons rv .nil
  | _, _, .cons h t => .cons h (RepT.snoc rv t)
theorem RepT.put {k : List Key} {v : V} {x : PyData} {ws : List (List Key × V)} {kvs : List (PyData × PyData)} (r : RepT A H ws kvs) (rv : Rep A H v x) : RepT A H (putK ws k v) (dput (.tuple (k.map keyDt)) x kvs) := by
  unfold putK dput
  rw [r.any (k := k)]
  split
  · exact r.map_put rv
  · exact r.snoc rv
theorem dset_of {i : Nat} {x y : PyData} {p : Addr} {v u : V} (R : Rl K A σ H r) (es : σ[i]? = some (some (.ref p))) (rv : Rep (Av A σ r) H v x) (ru : Rep (Av A σ r) H u y) (h : PostS K cl W A σ r H D (dsetV i x y r)) : ∃ H4, DPut H p u v H4 ∧ D.nx σ H4 := by
  unfold dsetV at h
  split at h
  · rename_i kvs m e
    split at h
    · rename_i c
      rw [Bool.and_eq_true] at c
      obtain ⟨ws, h1, h2⟩ := own_addr (o' := .dk kvs) (m' := m) R e es
      have own : Av A σ r p := .inr ⟨i, _, _, e, es⟩
      obtain ⟨k, rfl, rfl⟩ := key_of_isKey c.2 ru.b
      obtain ⟨st, R2⟩ := R.mut (o' := .dk (dput (keyDt k) x kvs)) (ho := .dK (putK ws k v)) e es ⟨_, upd_same, (h2.upd own).put (rv.upd own)⟩
      exact ⟨_, .k h1 (by rw [h2.length, ← line_eq]; exact of_decide_eq_true c.1), h _ _ st.q R2⟩
    · exact h.elim
  · rename_i kvs m e
    split at h
    · rename_i c
      rw [Bool.and_eq_true] at c
      obtain ⟨ws, h1, h2⟩ := own_addr (o' := .dt kvs) (m' := m) R e es
      have own : Av A σ r p := .inr ⟨i, _, _, e, es⟩
      obtain ⟨b, ks, rfl, rfl, hb⟩ := keyT_of c.2 ru
      obtain ⟨st, R2⟩ := R.mut (o' := .dt (dput (.tuple (ks.map keyDt)) x kvs)) (ho := .dT (putK ws ks v)) e es ⟨_, upd_same, (h2.upd own).put (rv.upd own)⟩
      exact ⟨_, .t h1 hb (by rw [h2.length, ← line_eq]; exact of_decide_eq_true c.1), h _ _ st.q R2⟩
    · exact h.elim
  · exact h.elim
theorem ret_of {x : AV} {v : V} {r0 : Rho} {H0 : Hp} (al : Allo A H0) (ok : OkE K A σ r0 H0 v H x r) (h : PostS K cl W A σ r0 H0 D (retV x r)) : D.rt v H := by
  match x, ok, h with
  | .d y false, ⟨s1, R1, q⟩, h => exact h v σ H ⟨s1.q, R1, q⟩
  | .d y true, ⟨s1, p, e, hp, no, R1, o⟩, h => exact h v σ H ⟨s1.q, p, e, .inl hp, no, R1, o⟩
  | .cst y, ok, h => exact h.elim
  | .var i, ⟨s1, R1, q⟩, h =>
    have q : σ[i]? = some (some v) := q
    have h : PostS K cl W A σ r0 H0 D (match r[i]? with
      | some (some (.d x)) => .ret x false r
      | some (some (.own (.lst xs) true)) => .ret (.list xs) true (r.set i none)
      | some (some (.own (.dk kvs) true)) => .ret (.dict kvs) true (r.set i none)
      | _ => .stuck) := h
    have go : ∀ (o : Ob) (d : PyData) (p : Addr), r[i]? = some (some (.own o true)) → v = .ref p → (∀ B, ObRep B H p o → ObD B H p d) → PostS K cl W A σ r0 H0 D (.ret d true (r.set i none)) → D.rt v H := by
      rintro o d p e rfl hob h
      obtain ⟨p', q1, ob, na⟩ := R1.own i o true e
      rw [q] at q1
      cases q1
      have hi : i < r.length := (List.getElem?_eq_some_iff.mp e).1
      have slot : ∀ (j : Nat) (sv : SV), (r.set i none)[j]? = some (some sv) → i ≠ j ∧ r[j]? = some (some sv) := fun j sv h => by
        by_cases z : i = j
        · subst z
          rw [List.getElem?_set_self hi] at h
          cases h
        · rw [List.getElem?_set_ne z] at h
          exact ⟨z, h⟩
      have own : ∀ q, Own σ (r.set i none) q → Own σ r q := fun q ⟨j, o', m, h1, h2⟩ => ⟨j, o', m, (slot j _ h1).2, h2⟩
      have no : ¬ Own σ (r.set i none) p := fun ⟨j, o', m, h1, h2⟩ => (slot j _ h1).1 (R1.inj i j _ _ _ _ p e (slot j _ h1).2 q h2)
      have sub : ∀ q, Av (And1 A p) σ (r.set i none) q → Av A σ r q := fun z => by
        rintro ((z | z) | z)
        · exact .inl z
        · exact .inr (by rw [z]; exact ⟨i, o, true, e, q⟩)
        · exact .inr (own _ z)
      have st : Stq σ r H σ (r.set i none) H := ⟨fun _ _ h _ => h, fun _ => Nat.le_refl _, fun q z => .inl (own q z), fun j o' z => ⟨⟨o', (slot j _ z).2⟩, rfl⟩, fun q ⟨j, o', h1, h2⟩ => .inl ⟨j, o', (slot j _ h1).2, h2⟩⟩
      refine h _ σ H ⟨s1.q.trans st, p, rfl, ?_, no, ⟨by rw [List.length_set]; exact R1.len, fun j y h => ?_, fun j o' m h => ?_, fun j y h => ?_, fun j j' o1 m1 o2 m2 q h1 h2 h3 h4 => R1.inj j j' o1 m1 o2 m2 q (slot j _ h1).2 (slot j' _ h2).2 h3 h4, fun q' z => z.elim (R1.al q') fun z => by rw [z]; exact R1.own_lvl ⟨i, o, true, e, q⟩⟩, hob _ (ob.mono sub)⟩
      · obtain ⟨o', z⟩ := s1.slot i o true e
        exact .inr ⟨i, o', z, q⟩
      · obtain ⟨u, h1, h2⟩ := R1.d j y (slot j _ h).2
        exact ⟨u, h1, h2.mono sub⟩
      · obtain ⟨q', h1, h2, h3⟩ := R1.own j o' m (slot j _ h).2
        exact ⟨q', h1, h2.mono sub, fun z y => y.elim (h3 z) fun y => (slot j _ h).1 (by subst y; exact R1.inj i j _ _ _ _ _ e (slot j _ h).2 q h1)⟩
      · obtain ⟨u, h1, h2⟩ := R1.ro j y (slot j _ h).2
        exact ⟨u, h1, h2.mono sub⟩
    split at h
    · rename_i y e
      obtain ⟨u, e1, e2⟩ := R1.d i y e
      rw [q] at e1
      cases e1
      exact h v σ H ⟨s1.q, R1, e2⟩
    · rename_i xs e
      obtain ⟨p, e1, _, _⟩ := R1.own i _ _ e
      rw [q] at e1
      cases e1
      exact go (.lst xs) (.list xs) p e rfl (fun B z => z) h
    · rename_i xs e
      obtain ⟨p, e1, _, _⟩ := R1.own i _ _ e
      rw [q] at e1
      cases e1
      exact go (.dk xs) (.dict xs) p e rfl (fun B z => z) h
    · exact h.elim
end

section
variable {G : Cg} {cl : ClsT} {W : WX} {φ : Phi} {s : Sc} {X : Cx}
theorem pe_nm (ok : XOk G cl W φ s X) {i : Nat} {x : Str} {p : Pos} (h1 : isVis s x = true) (h2 : nmOk x = true) (h3 : atN G i x = true) : PE X (.Name x p) (tVar i) := pe_var (ok.at_ h3) (ok.vis h1) (nmOk_1 h2).1 (nmOk_1 h2).2
theorem assign_sub {o i : Expr} {pos : Pos} {env : Env} (h : isSlice i = false) : ∀ v, assign (.Subscript o i pos) env v = (do
      let ov ← holding [v] (eval o env)
      let iv ← holding [v, ov] (eval i env)
      standAt pos
      holding [v, ov, iv] (setItem ov iv v)
      release [v, ov, iv] []) := by
  intro v
  cases i <;> first | rfl | cases h
theorem ss_set (ok : XOk G cl W φ s X) {i : Nat} {k e : E} {x : Str} {p p2 pos : Pos} {kx ex : Expr} (h1 : isVis s x = true) (h2 : nmOk x = true) (h3 : atN G i x = true) (h4 : chkE G k s kx = true) (h5 : chkE G e s ex = true) (h6 : isComp ex = false) (h7 : isSlice kx = false) :
    PS X (.Assign [.Subscript (.Name x p) kx p2] ex pos) (tSv X.K cl W (evS φ (.set i k e))) := by
  have hw : swappedStores [.Subscript (.Name x p) kx p2] ex X.env = pure none := by
    unfold swappedStores
    cases ex <;> rfl
  have hs : swapsWithSole [.Subscript (.Name x p) kx p2] ex pos.line X.env = pure false := by
    have z := swaps_no (t := some (Expr.Subscript (.Name x p) kx p2)) (l := pos.line) (env := X.env) h6
    exact z
  refine PS.imp' (ps_asg (PE.imp' (sound_E e ok h5).1 te_dof) (pg_sub (pe_nm ok h1 h2 h3) (sound_E k ok h4).1 set_list (assign_sub h7)) hs hw rfl) ?_
  rintro D σ H ⟨A, r, R, h⟩
  unfold evS at h
  refine ⟨A, r, R, (PostS.bindD h).mono ?_⟩
  rintro v H1 ⟨r1, y, R1, q1, s1, h1⟩
  split at h1
  · rename_i ho
    obtain ⟨o, m, e1⟩ := ownA_of ho
    obtain ⟨p, es, _, _⟩ := R1.own i o m e1
    refine ⟨.ref p, es, A, r1, R1, (PostS.bind h1).mono ?_⟩
    rintro u H2 ⟨A2, r2, z, _, R2, q2, c2, h2⟩
    exact set_of R2 es (c2 v (.d y false) q1) q2 h2
  · exact h1.elim
theorem ss_dset (ok : XOk G cl W φ s X) {i : Nat} {k e : E} {x : Str} {p p2 pos : Pos} {kx ex : Expr} (h1 : isVis s x = true) (h2 : nmOk x = true) (h3 : atN G i x = true) (h4 : chkE G k s kx = true) (h5 : chkE G e s ex = true) (h6 : isComp ex = false) (h7 : isSlice kx = false) :
    PS X (.Assign [.Subscript (.Name x p) kx p2] ex pos) (tSv X.K cl W (evS φ (.dset i k e))) := by
  refine PS.imp' (ps_dput (room1 ok.units) (pe_nm ok h1 h2 h3) (PE.imp' (sound_E k ok h4).1 te_dof) (PE.imp' (sound_E e ok h5).1 te_dof) (swaps_no h6)) ?_
  rintro D σ H ⟨A, r, R, h⟩
  unfold evS at h
  refine ⟨A, r, R, (PostS.bindD h).mono ?_⟩
  rintro v H1 ⟨r1, y, R1, q1, s1, h1⟩
  split at h1
  · rename_i ho
    obtain ⟨o, m, e1⟩ := ownA_of ho
    obtain ⟨p, es, _, _⟩ := R1.own i o m e1
    refine ⟨.ref p, es, A, r1, R1, (PostS.bindD h1).mono ?_⟩
    rintro u H2 ⟨r2, z, R2, q2, s2, h2⟩
    obtain ⟨H4, g1, g2⟩ := dset_of R2 es (q1.step (fun p o e n => s2.keep p o e fun z => n (.inr z)) fun p z => .inl (z.imp id (s2.own p))) q2 h2
    exact ⟨p, H4, rfl, g1, g2⟩
  · exact h1.elim
theorem ss_aug (ok : XOk G cl W φ s X) {i : Nat} {o : Op2} {e : E} {x : Str} {p pos : Pos} {ex : Expr} (h1 : atN G i x = true) (h2 : canSet s x = true) (h3 : opA o = true) (h4 : chkE G e s ex = true) : PS X (.AugAssign (.Name x p) (opr o) ex pos) (tSv X.K cl W (evS φ (.aug i o e))) := by
  obtain ⟨hl, hf⟩ := ok.set_ h2
  have go : ∀ f : Int → Int → Int, (∀ a b, op2D o (.int a) (.int b) = some (.int (f a b), false)) → PIp X (opr o) (ipI f) → PS X (.AugAssign (.Name x p) (opr o) ex pos) (tSv X.K cl W (evS φ (.aug i o e))) := by
    intro f hop ho
    refine PS.imp' (ps_aug (chk_ne ok) (ok.at_ h1) hl (sound_E e ok h4).1 ho hf) ?_
    rintro D σ H ⟨A, r, R, h⟩
    unfold evS at h
    split at h
    · rename_i a e1
      obtain ⟨v, es, rv⟩ := R.d i _ e1
      cases rv
      refine ⟨.int a, es, A, r, R, (PostS.bind h).mono ?_⟩
      rintro u H1 ⟨A1, r1, y, _, R1, q1, _, h1⟩
      unfold augV at h1
      split at h1
      · rename_i b f' _
        rw [hop] at h1
        obtain ⟨g1, g2, _⟩ := R1.put (i := i) (x := .int (f a b)) (.int _)
        exact ⟨a, b, rfl, hv_int q1, h1 _ _ g2 g1⟩
      · exact h1.elim
    · exact h.elim
  cases o with
  | add => exact go _ (fun _ _ => rfl) ip_add
  | sub => exact go _ (fun _ _ => rfl) ip_sub
  | _ => cases h3
theorem ss_iff {tc : Rho → R Bool} {c : Expr} {a b : List Stmt} {pos : Pos} {ea eb : Rho → SR} (hc : PT X c (tTv X.K cl W tc)) (ha : PSs X a (tSv X.K cl W ea)) (hb : PSs X b (tSv X.K cl W eb)) : PS X (.If c a b pos) (tSv X.K cl W fun r => stR (tc r) fun k r1 => if k then ea r1 else eb r1) := by
  refine PS.imp' (ps_if hc ha hb) ?_
  rintro D σ H ⟨A, r, R, h⟩
  refine ⟨A, r, R, (PostS.bindT h).mono ?_⟩
  rintro k H1 ⟨r1, R1, h1⟩
  cases k with
  | true => exact ⟨A, r1, R1, h1⟩
  | false => exact ⟨A, r1, R1, h1⟩
theorem ss_ret (ok : XOk G cl W φ s X) {e : E} {ex : Expr} {pos : Pos} (h1 : chkE G e s ex = true) : PS X (.Return (some ex) pos) (tSv X.K cl W (evS φ (.ret e))) := by
  refine PS.imp' (ps_ret (sound_E e ok h1).1) ?_
  rintro D σ H ⟨A, r, R, h⟩
  unfold evS at h
  refine ⟨A, r, R, ?_⟩
  have h : PostS X.K cl W A σ r H D (stR ((evP φ e).1 r) fun x r1 => retV x r1) := h
  generalize (evP φ e).1 r = ra at h ⊢
  cases ra with
  | stuck => exact h
  | exc c fs r' => exact h.ofX
  | ok x r1 => exact fun v H1 okE => ret_of R.al okE h
theorem ss_retN {pos : Pos} : PS X (.Return none pos) (tSv X.K cl W (evS φ (.ret .non))) := by
  refine PS.imp' ps_retN ?_
  rintro D σ H ⟨A, r, R, h⟩
  exact h .non σ H ⟨.refl, R, .non⟩
theorem ss_pass {pos : Pos} : PS X (.Pass pos) (tSv X.K cl W (evS φ .pass)) := by
  refine PS.imp' ps_pass ?_
  rintro D σ H ⟨A, r, R, h⟩
  exact h σ H .refl R
theorem ss_doc {x : Str} {k : Nat} {p pos : Pos} : PS X (.Expr (.Constant (.str x) k p) pos) (tSv X.K cl W (evS φ .pass)) := by
  refine PS.imp' ps_doc ?_
  rintro D σ H ⟨A, r, R, h⟩
  exact h σ H .refl R
/-- while -/
theorem ss_while (hp : PassesOwn (model X.prog X.w) X.A X.env X.xe) {tc : Rho → R Bool} {c : Expr} {b : List Stmt} {pos : Pos} {eb : Rho → SR} {n : Nat} (hc : PT X c (tTv X.K cl W tc)) (hb : PSs X b (tSv X.K cl W eb)) : PS X (.While c b [] pos) (tSv X.K cl W (whileN tc eb n)) := by
  refine PS.imp' (ps_while hp hc hb) ?_
  rintro D σ H ⟨A, r, R, h⟩
  refine ⟨fun m σ H => ∃ A r, Rl X.K A σ H r ∧ PostS X.K cl W A σ r H D (whileN tc eb m r), ⟨n, A, r, R, h⟩, ?_⟩
  rintro m σ H ⟨A, r, R, h⟩
  refine ⟨A, r, R, ?_⟩
  cases m with
  | zero => exact h.elim
  | succ m =>
    unfold whileN at h
    cases e : tc r with
    | stuck => rw [e] at h; exact h.elim
    | exc k fs r1 => rw [e] at h; exact h.ofX
    | ok k r1 =>
      rw [e] at h
      intro H1 s1 R1
      cases k with
      | false => exact h σ H1 s1.q R1
      | true =>
        rw [if_pos rfl]
        refine ⟨fun σ2 H2 => ∃ A r, Rl X.K A σ2 H2 r ∧ PostS X.K cl W A σ2 r H2 D (whileN tc eb m r), fun σ2 H2 hN => ⟨m, Nat.lt_succ_self m, hN⟩, A, r1, R1, ?_⟩
        have h := PostS.back s1.q (fun _ z => z) h
        dsimp only at h
        cases e2 : eb r1 with
        | stuck => rw [e2] at h; exact h
        | exc k fs r2 => rw [e2] at h; exact h
        | ret d fr r2 => rw [e2] at h; exact h
        | next r2 =>
          rw [e2] at h
          exact fun σ2 H2 s2 R2 => ⟨A, r2, R2, PostS.back s2 (fun _ z => z) h⟩
end
end Ev
/-! Errors made and raised. -/
namespace Ev
open PySem PySem.Spec PyProof.Rows L2

/-! ### making an error -/
section
variable {X : Cx} {C : Addr}
/-- X(): no __init__ of its own -/
theorem pmk_bare {bmB : List Value} {B newId initId : String} {x : Str} {p pos : Pos} (F : ExcBaseFacts B newId initId bmB) (q : PySem.W.excIn X.K C bmB newId = true) (mC : X.mg x = some (.ref C)) (kC : PySem.W.keepIn X.K (.ref C) = true) (r : Raises X (.ref C)) (hg : Gl X x)
    (hdb : (x == ("__debug__" : Str)) = false) : L2N.PMk X (.Call (.Name x p) [] [] pos) (fun _ H Q => Q (.ref C) none H) := by
  intro pins s σ H Q I h
  refine wpAny_Call_Name_kw (ld_glob I hg mC ?_ hdb)
  refine PySem.W.callWith_K0 I.kIn kC ?_
  obtain ⟨b1, b2, b3, b4, b5, b6, b7, b8, b9, c1, c2, d1, d2, d3, d4, d5, m1, h1, h2, h3, h4⟩ := exc_obj I.kIn q
  obtain ⟨hp, gs, dr, tk, os⟩ := s
  exact wpAny_call_exc_subT F h4 h1 h2 h3 (fun h' e hm => L2N.mk_of I hm r h (I.hok.gone hm.new)) (by show 0 ≤ _; omega)
/-- X(e, ..), its own __init__ known -/
theorem pmk_init {CX : CXT} {x : Str} {e : Expr} {es : List Expr} {ta : TA} {p pos : Pos} {fI : Addr} {k : Nat} {fd : FuncData} {ps : List Str} {sp : Sp} (T : OexC X.K C) (iC : PySem.W.findIn X.K (.ref C) "__init__" = some (some (.ref fI))) (tI : PySem.W.typeIn X.K (.ref fI) = some (.type "function"))
    (Fn : FnOk X.prog X.w X.K X.mg X.base CX k fI fd ps sp) (room : Room (k + 1) X.A) (hb : Binds X.K fd ps []) (hx : Passes CX X (fun _ _ _ => False)) (hg : Gl X x) (mC : X.mg x = some (.ref C)) (ha : PA X (e :: es) ta)
    (hdb : (x == ("__debug__" : Str)) = false) (he : starEach (e :: es) X.env = (false, eval e X.env) :: starEach es X.env) (hpl : (backTo pos (starEach es X.env)).any (·.1) = false) :
    L2N.PMk X (.Call (.Name x p) (e :: es) [] pos) (tMkO C sp [] ta) := by
  intro pins s σ H Q I h
  obtain ⟨n1, n2, n3, n4, bm, n5, n6, n7, n8, n9, k0, k1, k2, k3, k5, cC, cb⟩ := T.cls
  refine wpAny_Call_Name_kw (ld_glob I hg mC ?_ hdb)
  refine PySem.W.callWith_K (h₀ := X.base) I.ok.mod.kin T.kC (thn (ha.run pos pins s σ H _ I h) fun zs s1 ⟨vs, H1, J, rv, hz, q1⟩ => ⟨J.kIn, ?_⟩) he hpl
  show wpAny _ _ (call (.ref C) zs) _ _ _
  obtain ⟨g0, gs, dr, tk, os⟩ := s1
  have le1 : g0.objs.size ≤ g0.objs.size + 1 := Nat.le_succ _
  have no1 : H1 (g0.objs.size + 1) = none := J.hok.fresh le1
  have hq := q1 (g0.objs.size + 1) no1
  rw [List.append_nil] at hq
  generalize hG : (g0.push (PySem.W.kdv_tup zs)).push (PySem.HandSPX.excO C g0.objs.size) = G
  have kk : ∀ b o, g0.get? b = some o → G.get? b = some o := fun b o z => by
    rw [← hG]
    exact Heap.get?_push_of_some _ (Heap.get?_push_of_some _ z)
  have got : G.get? (g0.objs.size + 1) = some (PySem.HandSPX.excO C g0.objs.size) := by
    rw [← hG]
    heap_get
  have J2 : Inv X pins σ (upd H1 (g0.objs.size + 1) (exo (g0.objs.size + 1) C none)) ⟨G, gs, dr, tk, os⟩ := J.laid (t' := tk) kk le1 (exo_ok got)
  have rv2 : Vals (V.ref (g0.objs.size + 1) :: vs) (Value.ref (g0.objs.size + 1) :: zs) := .cons rfl rv
  have len : (Value.ref (g0.objs.size + 1) :: zs).length = ps.length := by
    have z := rv2.length
    rw [Fn.len _ _ _ _ hq] at z
    exact z.symm
  have few : zs.length ≤ sizeLine := by
    rw [← Paired.length rv, sizeLine_eq]
    omega
  have bd := hb ⟨G, gs, dr, tk, os⟩ (Value.ref (g0.objs.size + 1) :: zs) J2.kIn (by rw [List.append_nil]; exact len)
  rw [List.append_nil] at bd
  refine wpAny_call (PySem.HandSPX.call_own F.excBase_ValueError (fun Y => PySem.HandSPX.refsVE_contains Y bm cb) (J.kIn _ _ cC) (PySem.W.looks_findIn J.kIn iC) (fun self => PySem.W.bind_fn J.kIn self tI) few ?_)
  rw [hG]
  refine codeAny_mono (Fn.run _ X.stack _ _ ⟨Value.ref (g0.objs.size + 1) :: zs, []⟩ (Value.ref (g0.objs.size + 1) :: zs) _ _ (fun _ _ _ => False) (room.make C zs []) (J2.env0.make C zs []) bd rv2 hq) fun r s' hr => ?_
  cases r with
  | error er => exact hx pins σ _ _ er s' J2 hr
  | ok fl =>
    cases fl with
    | ret u =>
      obtain ⟨v, H2, os2, bare2, un2, hok2, ru, ev, d, fs, ea, ed, nd, q2⟩ := hr
      subst ev
      obtain ⟨h2, g2, d2, t2, o2⟩ := s'
      obtain ⟨t0, GG, JJ, kG, ge, hoe, na⟩ := mk_end0 (d2 := d2) (t2 := t2) J le1 kk un2 hok2 os2 bare2 ea ed nd
      exact ⟨ru, g0.objs.size + 1, _, _, ⟨GG, g2, d2, t2, o2⟩, _, .ref C, some d, rfl, JJ, kG, ge, hoe, ⟨rfl, rfl, fun vs hv => by cases hv; rfl⟩, rfl, rfl, na, rfl, bare2, raises_own T.exC T.tyC, q2⟩
    | next => exact False.elim hr
    | brk => exact False.elim hr
    | cont => exact False.elim hr
end

/-! ### classes of errors -/
/-- what an __init__ that stores its parameters promises -/
def spI (C : Addr) (nm : List Str) : Sp := fun vs H Q _ => ∃ (a : Addr) (ys : List V), vs = .ref a :: ys ∧ ys.length = nm.length ∧ H a = some (exo a C none) ∧
  ∀ (d : Addr) (l : List (Str × V)), H d = none → d ≠ a → (∀ f, l.lookup f = (nm.zip ys).lookup f) → Q .non (upd (upd H d (exd d l)) a (exo a C (some d)))
def Makes (X : Cx) (C : Addr) (nm : List Str) : Prop := (nm = [] ∧ PySem.W.excIn X.K C PySem.HandSPX.veTail "ValueError.__new__" = true) ∨ (nm ≠ [] ∧ OexC X.K C ∧ ∃ (fI : Addr) (k : Nat) (fd : FuncData) (ps : List Str),
  PySem.W.findIn X.K (.ref C) "__init__" = some (some (.ref fI)) ∧ PySem.W.typeIn X.K (.ref fI) = some (.type "function") ∧ Binds X.K fd ps [] ∧ Room (k + 1) X.A ∧ FnOk X.prog X.w X.K X.mg X.base (L2N.CX X.prog X.w) k fI fd ps (spI C nm))
/-- what statements want besides -/
structure XEx (G : Cg) (cl : ClsT) (X : Cx) : Prop where
  stk : X.stack = X.env :: X.outer
  frm : X.env.frame = some X.env.locals
  cls : ∀ c x nm, exAt G.exn c = some (x, nm) → ∃ C, X.mg x = some (.ref C) ∧ cl c = some (C, nm) ∧ PySem.W.keepIn X.K (.ref C) = true ∧ PySem.W.subIn X.K (.ref C) (.type "BaseException") = some true ∧ PySem.W.typeIn X.K (.ref C) = some (.type "type") ∧ Makes X C nm
section
variable {G : Cg} {cl : ClsT} {W : WX} {φ : Phi} {s : Sc} {X : Cx}
theorem Rl.xd {K : PySem.W.Frag} {A : Addr → Prop} {σ : Sg} {r : Rho} {H1 H2 : Hp} {a C d : Addr} {l : List (Str × V)} (R : Rl K A σ H1 r) (ha : H1 a = none) (hd : (upd H1 a (exo a C none)) d = none) (da : d ≠ a) (e2 : H2 = upd (upd (upd H1 a (exo a C none)) d (exd d l)) a (exo a C (some d))) :
    H1 d = none ∧ H2 a = some (exo a C (some d)) ∧ H2 d = some (exd d l) ∧ (∀ p o, H1 p = some o → upd (del H2 a) d (.xd l) p = some o) := by
  have hd1 : H1 d = none := by
    rw [upd_ne da] at hd
    exact hd
  subst e2
  refine ⟨hd1, upd_same, by rw [upd_ne da, upd_same], fun p o e => ?_⟩
  have pd : p ≠ d := fun z => by rw [z, hd1] at e; cases e
  have pa : p ≠ a := fun z => by rw [z, ha] at e; cases e
  rw [upd_ne pd, del_ne pa, upd_ne pa, upd_ne pd, upd_ne pa]
  exact e
theorem ss_raise (ok : XOk G cl W φ s X) (xx : XEx G cl X) {c : Nat} {es : Es} {st : Stmt} (h : chkRaise G s c es st = true) : PS X st (tSv X.K cl W (evS φ (.raise_ c es))) := by
  unfold chkRaise at h
  split at h
  · rename_i x p ls p2 pos
    simp only [Bool.and_eq_true] at h
    obtain ⟨⟨⟨h0, h1⟩, h2⟩, h3⟩ := h
    cases ex : exAt G.exn c with
    | none => rw [ex] at h0; cases h0
    | some yn =>
      obtain ⟨y, nm⟩ := yn
      rw [ex] at h0
      simp only [Bool.and_eq_true, decide_eq_true_eq] at h0
      obtain ⟨⟨rfl, h5⟩, h6⟩ := h0
      obtain ⟨C, m1, m2, m3, m4, m5, mk⟩ := xx.cls c y nm ex
      rcases mk with ⟨rfl, q⟩ | ⟨nn, T, fI, k, fd, ps, g1, g2, g3, g4, g5⟩
      · cases es with
        | cons e es => simp [Es.len] at h5
        | nil =>
          have e0 := chkEs_nil h3
          subst e0
          refine PS.imp' (L2N.ps_raise ok.calm ok.tk (pmk_bare F.excBase_ValueError q m1 m3 (raises_own m4 m5) (ok.gl h1) (nmOk_1 h2).1)) ?_
          rintro D σ H ⟨A, r, R, hh⟩
          have hh : PostS X.K cl W A σ r H D (.exc c [] r) := hh
          exact hh C none σ H .refl R ⟨[], m2, .inl ⟨rfl, rfl, rfl⟩⟩
      · cases es with
        | nil =>
          cases nm with
          | nil => exact absurd rfl nn
          | cons n nm => simp [Es.len] at h5
        | cons e es =>
          obtain ⟨l, ls', rfl, c1, c2, c3⟩ := chkEs_cons h3
          have ns := (chkEs_len h3).1
          simp only [noStar, Bool.and_eq_true, Bool.not_eq_true'] at ns
          refine PS.imp' (L2N.ps_raise ok.calm ok.tk (pmk_init T g1 g2 g5 g4 g3 (fun pins σ H s e s' I z => L2N.passes_call ok.tk (fun _ _ _ _ z => z.elim) pins σ H s e s' I z) (ok.gl h1) m1 (sound_Es (.cons e es) ok h3).2 (nmOk_1 h2).1 (star_cons ns.1) (star_any ns.2))) ?_
          rintro D σ H ⟨A, r, R, hh⟩
          refine ⟨A, r, R, ?_⟩
          have hh : PostS X.K cl W A σ r H D (stR (evDs φ (.cons e es) r) fun xs r1 => .exc c xs r1) := hh
          cases ev : evDs φ (.cons e es) r with
          | stuck => rw [ev] at hh; exact hh
          | exc c' fs' r' => rw [ev] at hh; exact hh.ofX
          | ok xs r1 =>
            rw [ev] at hh
            have hh : PostS X.K cl W A σ r H D (.exc c xs r1) := hh
            intro vs H1 s1 R1 rl
            have len : vs.length = nm.length := by rw [rl.length, evDs_len ev, h5]
            refine ⟨by omega, fun a ha => ⟨a, vs, by rw [List.append_nil], len, upd_same, fun d l hd da hl => ?_⟩⟩
            obtain ⟨hd1, z1, z2, gr⟩ := R1.xd ha hd da rfl
            refine ⟨rfl, d, l, z1, z2, hd1, ?_⟩
            refine hh C (some d) σ _ (s1.q.trans (Stp.grow gr).q) (R1.grow gr) ⟨nm, m2, .inr ⟨nn, d, l, vs, rfl, upd_same, hl, len.symm, ?_⟩⟩
            exact rl.step (fun p o z _ => gr p o z) fun p z => .inl z
  · cases h
end
end Ev
/-! Errors caught: what stands in an except clause. -/
namespace Ev
open PySem PySem.Spec PyProof.Rows L2

/-! ### a name goes -/
section
variable {K : PySem.W.Frag} {A : Addr → Prop} {σ : Sg} {r : Rho} {H : Hp}
theorem Rl.hide (R : Rl K A σ H r) (i : Nat) (w : Option V) : Rl K A (σ.set i w) H (r.set i none) ∧ Stq σ r H (σ.set i w) (r.set i none) H ∧ (∀ p, Own (σ.set i w) (r.set i none) p → Own σ r p) := by
  have at_ : ∀ (j : Nat) (sv : SV), (r.set i none)[j]? = some (some sv) → i ≠ j ∧ r[j]? = some (some sv) ∧ (σ.set i w)[j]? = σ[j]? := fun j sv h => by
    rw [List.getElem?_set] at h
    split at h
    · split at h <;> cases h
    · rename_i ne
      exact ⟨ne, h, List.getElem?_set_ne ne⟩
  have own : ∀ p, Own (σ.set i w) (r.set i none) p → Own σ r p := fun p ⟨j, o, m, h1, h2⟩ => by
    obtain ⟨_, h3, h4⟩ := at_ j _ h1
    rw [h4] at h2
    exact ⟨j, o, m, h3, h2⟩
  have sub : ∀ p, Av A (σ.set i w) (r.set i none) p → Av A σ r p := fun p z => z.imp id (own p)
  refine ⟨⟨by rw [List.length_set, List.length_set]; exact R.len, fun j y h => ?_, fun j o m h => ?_, fun j y h => ?_, fun j j' o m o' m' p h1 h2 h3 h4 => ?_, R.al⟩,
    ⟨fun _ _ h _ => h, fun _ => Nat.le_refl _, fun p h => .inl (own p h), fun j o h => let ⟨_, h3, h4⟩ := at_ j _ h; ⟨⟨o, h3⟩, h4⟩, fun p ⟨j, o, h1, h2⟩ => ?_⟩, own⟩
  · obtain ⟨_, h3, h4⟩ := at_ j _ h
    obtain ⟨u, h1, h2⟩ := R.d j y h3
    exact ⟨u, by rw [h4]; exact h1, h2.mono sub⟩
  · obtain ⟨_, h3, h4⟩ := at_ j _ h
    obtain ⟨p, h5, h6, h7⟩ := R.own j o m h3
    exact ⟨p, by rw [h4]; exact h5, h6.mono sub, h7⟩
  · obtain ⟨_, h3, h4⟩ := at_ j _ h
    obtain ⟨u, h1, h2⟩ := R.ro j y h3
    exact ⟨u, by rw [h4]; exact h1, h2.mono sub⟩
  · obtain ⟨_, h5, h6⟩ := at_ j _ h1
    obtain ⟨_, h7, h8⟩ := at_ j' _ h2
    rw [h6] at h3
    rw [h8] at h4
    exact R.inj j j' o m o' m' p h5 h7 h3 h4
  · obtain ⟨_, h3, h4⟩ := at_ j _ h1
    rw [h4] at h2
    exact .inl ⟨j, o, h3, h2⟩
end

theorem lookup_zip {z : Str} {v : V} : ∀ {nm : List Str} {vs : List V} {j : Nat}, nm.Nodup → nm.length = vs.length → nm[j]? = some z → vs[j]? = some v → (nm.zip vs).lookup z = some v
  | [], _, j, _, _, e, _ => by simp at e
  | _ :: _, [], j, _, l, _, _ => by simp at l
  | n :: nm, u :: vs, j, nd, l, e1, e2 => by
    have nd := List.nodup_cons.mp nd
    cases j with
    | zero =>
      simp only [List.getElem?_cons_zero, Option.some.injEq] at e1 e2
      subst e1 e2
      simp [List.zip, List.lookup]
    | succ j =>
      simp only [List.getElem?_cons_succ] at e1 e2
      have ne : (z == n) = false := by
        refine beq_eq_false_iff_ne.mpr fun q => nd.1 ?_
        subst q
        exact List.mem_of_getElem? e1
      rw [List.zip_cons_cons, List.lookup_cons, ne]
      exact lookup_zip nd.2 (by simpa using l) e1 e2

/-! ### an error that is held -/
structure Held (K : PySem.W.Frag) (cl : ClsT) (A : Addr → Prop) (σ : Sg) (r : Rho) (H : Hp) (i : Nat) (a C : Addr) (dx : Option Addr) (c : Nat) (fs : List PyData) : Prop where
  R : Rl K A σ H r
  at_ : σ[i]? = some (some (.ref a))
  ex : ExOk cl (Av A σ r) H c fs C dx
theorem ExOk.grow {cl : ClsT} {A : Addr → Prop} {H H' : Hp} {c : Nat} {fs : List PyData} {C : Addr} {dx : Option Addr} (g : ∀ p o, H p = some o → H' p = some o) (q : ExOk cl A H c fs C dx) : ExOk cl A H' c fs C dx := by
  obtain ⟨nm, e, q⟩ := q
  exact ⟨nm, e, q.imp id fun ⟨n, d, l0, vs, a, b, lk, l, rr⟩ => ⟨n, d, l0, vs, a, g _ _ b, lk, l, rr.step (fun p o z _ => g p o z) fun p z => .inl z⟩⟩
theorem Held.grow {K : PySem.W.Frag} {cl : ClsT} {A : Addr → Prop} {σ : Sg} {r : Rho} {H H' : Hp} {i : Nat} {a C : Addr} {dx : Option Addr} {c : Nat} {fs : List PyData} (g : ∀ p o, H p = some o → H' p = some o) (h : Held K cl A σ r H i a C dx c fs) : Held K cl A σ r H' i a C dx c fs :=
  ⟨h.R.grow g, h.at_, h.ex.grow g⟩
def tHv (K : PySem.W.Frag) (cl : ClsT) (i : Nat) (a C : Addr) (dx : Option Addr) (c : Nat) (fs : List PyData) (ev : Rho → Option PyData) : TE := fun σ H Q => ∃ A r x, Held K cl A σ r H i a C dx c fs ∧ ev r = some x ∧
  ∀ v H', (∀ p o, H p = some o → H' p = some o) → Rep (Av A σ r) H' v x → Q v H'
def tHt (K : PySem.W.Frag) (cl : ClsT) (i : Nat) (a C : Addr) (dx : Option Addr) (c : Nat) (fs : List PyData) (ev : Rho → Option PyData) : TT := fun σ H Q => ∃ A r b, Held K cl A σ r H i a C dx c fs ∧ ev r = some (.bool b) ∧
  ∀ H', (∀ p o, H p = some o → H' p = some o) → Q b H'
def tHs (K : PySem.W.Frag) (cl : ClsT) (i : Nat) (a C : Addr) (dx : Option Addr) (c : Nat) (fs : List PyData) (ev : Rho → SR) : TS := fun D σ H => ∃ A r, Held K cl A σ r H i a C dx c fs ∧ PostS K cl (fun _ _ _ _ => False) A σ r H D (ev r)

/-- a def that tells an error's kind, called where that error is handled -/
def FnK (P : Program) (w : World) (K : PySem.W.Frag) (mg : Str → Option Value) (base : Heap) (CX : CXT) (k : Nat) (f : Addr) (fd : FuncData) (ps : List Str) (cl : ClsT) (tbl : List Str) : Prop :=
  ∀ (A : Around) (outer : List Env) (s : Shared) (H : Hp) (args : Args) (Q : VK) (E : XK) (p : Addr × Obj) (c : Nat) (C : Addr) (nm : List Str) (dx : Option Addr) (z : Str), L2H.RoomH k A → L2H.Hot1 A p → L2H.PinOk outer H s p → Env0 P w K mg base A outer s H →
    BindsTo s fd args (ps.zip [.ref p.1]) → ps.length = 1 → Zc (.ref C) dx p.2 → cl c = some (C, nm) → (dx = none ∨ ∃ d l, dx = some d ∧ H d = some (.xd l)) → tbl[c]? = some z → (∀ H', (∀ q o, H q = some o → H' q = some o) → Q (.str z) H') →
      codeAny (model P w) A (.call (.ref f) args) (L2.CR CX outer P w H s Q E) s
def spW : Sp := fun vs H Q _ => ∃ i : Int, vs = [.int i] ∧ Q (.bl true) H
/-- what except clauses want -/
structure XHot (G : Cg) (cl : ClsT) (X : Cx) : Prop where
  web : G.exn.isEmpty = false → ∃ CW, X.mg sWeb = some (.ref CW) ∧ ∀ c C nm, cl c = some (C, nm) → PySem.W.exmOne X.K (.ref C) (.ref CW) = some true
  fld : ∀ c C nm, cl c = some (C, nm) → nm ≠ [] → XfC X.K C ∧ ∀ x ∈ nm, PySem.W.findIn X.K (.ref C) x = some none
  nod : ∀ c C nm, cl c = some (C, nm) → nm.Nodup
  kin : ∀ f tbl x, (f, tbl) ∈ G.hot.kin → G.fna[f]? = some x → ∃ (k : Nat) (fa : Addr) (fd : FuncData) (ps : List Str), X.mg x = some (.ref fa) ∧ PySem.W.keepIn X.K (.ref fa) = true ∧ Binds X.K fd ps [] ∧ ps.length = 1 ∧ Room k X.A ∧ FnK X.prog X.w X.K X.mg X.base (L2N.CX X.prog X.w) k fa fd ps cl tbl
  who : ∀ f x, f ∈ G.hot.who → G.fna[f]? = some x → ∃ (k : Nat) (fa : Addr) (fd : FuncData) (ps : List Str), X.mg x = some (.ref fa) ∧ PySem.W.keepIn X.K (.ref fa) = true ∧ Binds X.K fd ps [] ∧ Room k X.A ∧ L2H.FnH X.prog X.w X.K X.mg X.base (L2N.CX X.prog X.w) k fa fd ps spW

section
variable {G : Cg} {cl : ClsT} {W : WX} {φ : Phi} {s : Sc} {X : Cx} {i : Nat} {n : Str} {a C : Addr} {dx : Option Addr} {c : Nat} {fs : List PyData} {oe : Obj} {pn : List (Addr × Obj)}
abbrev SndH (Y : Cx) (K : PySem.W.Frag) (cl : ClsT) (i : Nat) (a C : Addr) (dx : Option Addr) (c : Nat) (fs : List PyData) (ex : Expr) (ev : Rho → Option PyData) : Prop := PE Y ex (tHv K cl i a C dx c fs ev) ∧ PT Y ex (tHt K cl i a C dx c fs ev)
theorem hs_mk {Y : Cx} {ex : Expr} {ev : Rho → Option PyData} (he : PE Y ex (tHv Y.K cl i a C dx c fs ev)) (hp : ∀ whole, isTrue ex Y.env whole = (do let v ← whole; standAt ex.pos; holding [v] (truthy v)) := by intro _; rfl) : SndH Y Y.K cl i a C dx c fs ex ev :=
  ⟨he, PT.imp' (pt_truth he hp) fun σ H Q ⟨A, r, b, hd, e, h⟩ => ⟨A, r, .bool b, hd, e, fun v H' g rep => by cases rep; exact ⟨b, rfl, h H' g⟩⟩⟩
theorem hv_c {K : PySem.W.Frag} {v : V} {x : PyData} (hr : ∀ A H, Rep A H v x) : ∀ σ H Q, tHv K cl i a C dx c fs (fun _ => some x) σ H Q → tC v σ H Q := by
  rintro σ H Q ⟨A, r, y, hd, e, h⟩
  cases e
  exact h v H (fun _ _ z => z) (hr _ _)
theorem hv_cp {K : PySem.W.Frag} {o : Cp} (ho : cpR o = false) {ea eb ev : Rho → Option PyData} (hev : ∀ r x, ev r = some x → ∃ xa xb k, ea r = some xa ∧ eb r = some xb ∧ cpD o xa xb = some k ∧ x = .bool k) :
    ∀ σ H Q, tHv K cl i a C dx c fs ev σ H Q → tOp (rCp K o) (tHv K cl i a C dx c fs ea) (tHv K cl i a C dx c fs eb) σ H Q := by
  rintro σ H Q ⟨A, r, x, hd, e, h⟩
  obtain ⟨xa, xb, k, e1, e2, e3, rfl⟩ := hev r x e
  refine ⟨A, r, xa, hd, e1, fun v H1 g1 rv => ⟨A, r, xb, hd.grow g1, e2, fun u H2 g2 ru => ⟨Av A σ r, xa, xb, k, ((hd.grow g1).grow g2).R.av, ?_, ?_, e3, ?_⟩⟩⟩
  · exact (rv.step (fun p o z _ => g2 p o z) fun p z => .inl z).b
  · unfold RepX
    rw [ho]
    exact ru.b
  · exact h _ H2 (fun p o z => g2 p o (g1 p o z)) (.bl k)
theorem hs_cp {Y : Cx} {o : Cp} (hu : Y.A.units + 65 < cLine) (ho : cpR o = false) {l r : Expr} {p : Pos} {ea eb ev : Rho → Option PyData} (ha : PE Y l (tHv Y.K cl i a C dx c fs ea)) (hb : PE Y r (tHv Y.K cl i a C dx c fs eb)) (hm : behindInMarks (cpo o) r = false)
    (hev : ∀ r x, ev r = some x → ∃ xa xb k, ea r = some xa ∧ eb r = some xb ∧ cpD o xa xb = some k ∧ x = .bool k) : SndH Y Y.K cl i a C dx c fs (.Compare l [cpo o] [r] p) ev := by
  refine ⟨PE.imp' (pe_cmpR (cp_ok hu o) ha hb hm) (hv_cp ho hev), PT.imp' (pt_cmpR (cp_ok hu o) ha hb hm) fun σ H Q h => ?_⟩
  obtain ⟨A, r, b, hd, e, h⟩ := h
  exact hv_cp ho hev σ H _ ⟨A, r, .bool b, hd, e, fun v H' g rep => by cases rep; exact ⟨b, rfl, h H' g⟩⟩
theorem hs_not {Y : Cx} {l : Expr} {p : Pos} {x : HE} (ha : SndH Y Y.K cl i a C dx c fs l fun r => evHE c fs r x) : SndH Y Y.K cl i a C dx c fs (.UnaryOp .Not l p) fun r => evHE c fs r (.not x) := by
  have un : ∀ (r : Rho) (y : PyData), evHE c fs r (.not x) = some y → ∃ b, evHE c fs r x = some (.bool b) ∧ y = .bool (!b) := fun r y h => by
    unfold evHE at h
    split at h
    · rename_i b e
      cases h
      exact ⟨b, e, rfl⟩
    · cases h
  constructor
  · refine PE.imp' (pe_not ha.1) ?_
    rintro σ H Q ⟨A, r, y, hd, e, h⟩
    obtain ⟨b, e1, rfl⟩ := un r y e
    exact ⟨A, r, .bool b, hd, e1, fun v H' g rep => by cases rep; exact ⟨b, rfl, h _ H' g (.bl _)⟩⟩
  · refine PT.imp' (pt_not ha.2) ?_
    rintro σ H Q ⟨A, r, y, hd, e, h⟩
    obtain ⟨b, e1, e2⟩ := un r _ e
    cases e2
    exact ⟨A, r, b, hd, e1, fun H' g => h H' g⟩
theorem ev_and {r : Rho} {x y : HE} {z : PyData} (h : evHE c fs r (.and x y) = some z) : ∃ b, evHE c fs r x = some (.bool b) ∧ (b = true → evHE c fs r y = some z) ∧ (b = false → z = .bool false) := by
  unfold evHE at h
  split at h
  · rename_i e; exact ⟨true, e, fun _ => h, fun z => by cases z⟩
  · rename_i e; cases h; exact ⟨false, e, (fun z => by cases z), fun _ => rfl⟩
  · cases h
theorem ev_or {r : Rho} {x y : HE} {z : PyData} (h : evHE c fs r (.or x y) = some z) : ∃ b, evHE c fs r x = some (.bool b) ∧ (b = false → evHE c fs r y = some z) ∧ (b = true → z = .bool true) := by
  unfold evHE at h
  split at h
  · rename_i e; cases h; exact ⟨true, e, (fun z => by cases z), fun _ => rfl⟩
  · rename_i e; exact ⟨false, e, fun _ => h, fun z => by cases z⟩
  · cases h
theorem hs_and {Y : Cx} {x y : HE} {l r : Expr} {rest : List Expr} {p : Pos} (ha : SndH Y Y.K cl i a C dx c fs l fun r => evHE c fs r x) (hb : rest = [] → SndH Y Y.K cl i a C dx c fs r fun r => evHE c fs r y) (hb2 : rest ≠ [] → SndH Y Y.K cl i a C dx c fs (.BoolOp .And (r :: rest) p) fun r => evHE c fs r y) :
    SndH Y Y.K cl i a C dx c fs (.BoolOp .And (l :: r :: rest) p) fun r => evHE c fs r (.and x y) := by
  have h1 : PE Y (.BoolOp .And (r :: rest) p) (tHv Y.K cl i a C dx c fs fun r => evHE c fs r y) ∧ PW Y (.BoolOp .And (r :: rest) p) (tHt Y.K cl i a C dx c fs fun r => evHE c fs r y) := by
    cases rest with
    | nil => exact ⟨pe_one (hb rfl).1, pw_and1 (hb rfl).2⟩
    | cons x xs => exact ⟨(hb2 (by simp)).1, pw_of (hb2 (by simp)).2⟩
  constructor
  · refine PE.imp' (pe_and ha.1 h1.1) ?_
    rintro σ H Q ⟨A, r, z, hd, e, h⟩
    obtain ⟨b, e1, e2, e3⟩ := ev_and e
    refine ⟨A, r, .bool b, hd, e1, fun v H' g rep => ?_⟩
    cases rep
    refine ⟨b, rfl, ?_⟩
    cases b with
    | false =>
      cases e3 rfl
      exact h _ H' g (.bl _)
    | true => exact ⟨A, r, z, hd.grow g, e2 rfl, fun v H2 g2 rv => h v H2 (fun p o z => g2 p o (g p o z)) rv⟩
  · refine PT.imp' (pw_and ha.2 h1.2).pt ?_
    rintro σ H Q ⟨A, r, z, hd, e, h⟩
    obtain ⟨b, e1, e2, e3⟩ := ev_and e
    refine ⟨A, r, b, hd, e1, fun H' g => ?_⟩
    cases b with
    | false =>
      cases e3 rfl
      exact h H' g
    | true => exact ⟨A, r, z, hd.grow g, e2 rfl, fun H2 g2 => h H2 fun p o z => g2 p o (g p o z)⟩
theorem hs_or {Y : Cx} {x y : HE} {l r : Expr} {rest : List Expr} {p : Pos} (ha : SndH Y Y.K cl i a C dx c fs l fun r => evHE c fs r x) (hb : rest = [] → SndH Y Y.K cl i a C dx c fs r fun r => evHE c fs r y) (hb2 : rest ≠ [] → SndH Y Y.K cl i a C dx c fs (.BoolOp .Or (r :: rest) p) fun r => evHE c fs r y) :
    SndH Y Y.K cl i a C dx c fs (.BoolOp .Or (l :: r :: rest) p) fun r => evHE c fs r (.or x y) := by
  have h1 : PE Y (.BoolOp .Or (r :: rest) p) (tHv Y.K cl i a C dx c fs fun r => evHE c fs r y) ∧ PW Y (.BoolOp .Or (r :: rest) p) (tHt Y.K cl i a C dx c fs fun r => evHE c fs r y) := by
    cases rest with
    | nil => exact ⟨pe_one (hb rfl).1, pw_or1 (hb rfl).2⟩
    | cons x xs => exact ⟨(hb2 (by simp)).1, pw_of (hb2 (by simp)).2⟩
  constructor
  · refine PE.imp' (pe_or ha.1 h1.1) ?_
    rintro σ H Q ⟨A, r, z, hd, e, h⟩
    obtain ⟨b, e1, e2, e3⟩ := ev_or e
    refine ⟨A, r, .bool b, hd, e1, fun v H' g rep => ?_⟩
    cases rep
    refine ⟨b, rfl, ?_⟩
    cases b with
    | true =>
      cases e3 rfl
      exact h _ H' g (.bl _)
    | false => exact ⟨A, r, z, hd.grow g, e2 rfl, fun v H2 g2 rv => h v H2 (fun p o z => g2 p o (g p o z)) rv⟩
  · refine PT.imp' (pw_or ha.2 h1.2).pt ?_
    rintro σ H Q ⟨A, r, z, hd, e, h⟩
    obtain ⟨b, e1, e2, e3⟩ := ev_or e
    refine ⟨A, r, b, hd, e1, fun H' g => ?_⟩
    cases b with
    | true =>
      cases e3 rfl
      exact h H' g
    | false => exact ⟨A, r, z, hd.grow g, e2 rfl, fun H2 g2 => h H2 fun p o z => g2 p o (g p o z)⟩
end
end Ev
/-! Errors caught: the except clause's suite, try. -/
namespace Ev
open PySem PySem.Spec PyProof.Rows L2
section
variable {G : Cg} {cl : ClsT} {W : WX} {φ : Phi} {s : Sc} {X : Cx} {i : Nat} {n : Str} {a C : Addr} {dx : Option Addr} {c : Nat} {fs : List PyData} {oe : Obj} {pn : List (Addr × Obj)}
theorem hs_var (ok : XOk G cl W φ s X) {x : Str} {p : Pos} {j : Nat} (h1 : isVis s x = true) (h2 : nmOk x = true) (h3 : atN G j x = true) : SndH (X.suite a ((a, oe) :: pn)) X.K cl i a C dx c fs (.Name x p) fun r => evHE c fs r (.var j) := by
  refine hs_mk (PE.imp' (pe_var (X := X.suite a ((a, oe) :: pn)) (ok.at_ h3) (ok.vis h1) (nmOk_1 h2).1 (nmOk_1 h2).2) ?_)
  rintro σ H Q ⟨A, r, y, hd, e, h⟩
  have e : (match r[j]? with | some (some (.d x)) => some x | _ => none) = some y := e
  split at e
  · rename_i z ez
    cases e
    obtain ⟨v, e1, e2⟩ := hd.R.d j _ ez
    exact ⟨v, e1, h v H (fun _ _ z => z) e2⟩
  · cases e
theorem hs_fld (ok : XOk G cl W φ s X) (xx : XEx G cl X) (xh : XHot G cl X) {p pos : Pos} {z : Str} {k j : Nat} (h1 : isVis s n = true) (h2 : nmOk n = true) (h3 : atN G i n = true) (h4 : (match exAt G.exn k with | some (_, nm) => decide (nm[j]? = some z) | none => false) = true)
    (hz : Zc (.ref C) dx oe) (hf : ∃ vs, oe.data = .fields vs) : SndH (X.suite a ((a, oe) :: pn)) X.K cl i a C dx c fs (.Attribute (.Name n p) z pos) fun r => evHE c fs r (.fld z k j) := by
  refine hs_mk ⟨fun pins s0 σ H Q I h => ?_⟩
  obtain ⟨A, r, y, hd, e, h⟩ := h
  unfold evHE at e
  split at e
  · rename_i ec
    subst ec
    obtain ⟨nm, e1, e2⟩ := hd.ex
    have e3 : nm[j]? = some z := by
      cases ex : exAt G.exn c with
      | none => rw [ex] at h4; cases h4
      | some yn =>
        obtain ⟨y', nm'⟩ := yn
        rw [ex] at h4
        obtain ⟨C', _, m2, _⟩ := xx.cls c y' nm' ex
        rw [e1] at m2
        cases m2
        exact of_decide_eq_true h4
    rcases e2 with ⟨rfl, _, _⟩ | ⟨nn, d, l, vs, rfl, hdd, lk, len, rl⟩
    · cases e3
    · obtain ⟨T, hno⟩ := xh.fld c C nm e1 nn
      obtain ⟨v, e4, rv⟩ := RepL.get rl e
      have e5 : l.lookup z = some v := by
        rw [lk]
        refine lookup_zip ?_ len e3 e4
        have q := xh.nod c C nm e1
        exact q
      exact (pe_xf (X := X) T (hno z (List.mem_of_getElem? e3)) hz hf (pe_var (X := X.suite a ((a, oe) :: pn)) (ok.at_ h3) (ok.vis h1) (nmOk_1 h2).1 (nmOk_1 h2).2) (by rfl)).run pins s0 σ H Q I ⟨_, hd.at_, rfl, rfl, d, l, v, rfl, hdd, e5, h v H (fun _ _ z => z) rv⟩
  · cases e
theorem hot_of (hz : L2N.Zn (.ref C) dx oe) (hf : ∃ vs, oe.data = .fields vs) : L2H.Hot1 (X.suite a ((a, oe) :: pn)).A (a, oe) := by
  obtain ⟨vs, hv⟩ := hf
  exact ⟨rfl, vs, hv, hz.2.2 vs hv⟩
theorem hs_kind (ok : XOk G cl W φ s X) (xh : XHot G cl X) {f : Nat} {tbl : List Str} {x : Str} {q p pos : Pos} (hfn : fnAt G f x = true) (h1 : isGl s x = true) (h2 : nmOk x = true) (hk : (f, tbl) ∈ G.hot.kin) (g1 : isVis s n = true) (g2 : nmOk n = true) (g3 : atN G i n = true)
    (hz : L2N.Zn (.ref C) dx oe) (hf : ∃ vs, oe.data = .fields vs) : SndH (X.suite a ((a, oe) :: pn)) X.K cl i a C dx c fs (.Call (.Name x q) [.Name n p] [] pos) fun r => evHE c fs r (.kind f tbl) := by
  have e : G.fna[f]? = some x := by
    unfold fnAt at hfn
    split at hfn
    · rename_i y e
      rw [e, of_decide_eq_true hfn]
    · cases hfn
  obtain ⟨k, fa, fd, ps, m1, m2, m3, m4, m5, m6⟩ := xh.kin f tbl x hk e
  refine hs_mk ⟨fun pins s0 σ H Q I h => ?_⟩
  obtain ⟨A, r, y, hd, e, h⟩ := h
  have e : (tbl[c]?).map PyData.str = some y := e
  cases ez : tbl[c]? with
  | none => rw [ez] at e; cases e
  | some z =>
    rw [ez] at e
    cases e
    obtain ⟨nm, e1, e2⟩ := hd.ex
    have pa : PA (X.suite a ((a, oe) :: pn)) [.Name n p] (tCons (tVar i) tNil) := pa_1 (pe_var (X := X.suite a ((a, oe) :: pn)) (ok.at_ g3) (ok.vis g1) (nmOk_1 g2).1 (nmOk_1 g2).2) rfl
    refine wpAny_Call_Name_kw (ld_glob (X := X.suite a ((a, oe) :: pn)) I (ok.gl h1) m1 ?_ (nmOk_1 h2).1)
    refine PySem.W.callWith_K (h₀ := X.base) I.ok.mod.kin m2 (thn (pa.run pos pins s0 σ H (fun vs H1 => vs = [V.ref a] ∧ H = H1) I ⟨_, hd.at_, rfl, rfl⟩) fun us s1 hh => ?_) (star_cons rfl) (star_any rfl)
    obtain ⟨vs, H1, I1, r1, ev, eH⟩ := hh
    subst ev eH
    refine ⟨I1.kIn, ?_⟩
    cases r1 with
    | cons ru rn =>
      rename_i u us'
      cases rn
      obtain rfl : u = Value.ref a := ru
      have bd := m3 s1 [.ref a] I1.kIn (by rw [List.append_nil]; exact m4.symm)
      rw [List.append_nil] at bd
      have P1 := I1.pin (a, oe) (List.mem_append_left _ List.mem_cons_self)
      have hpin : L2H.PinOk X.stack H s1 (a, oe) := ⟨P1.1, P1.2.1, fun hm => (List.mem_cons.mp (I1.stkSub a hm)).elim P1.2.2.1 P1.2.2.2.1, P1.2.2.2.2⟩
      show wpAny _ _ (call (.ref fa) [.ref a]) _ _ _
      refine wpAny_call (codeAny_mono (m6 _ X.stack s1 H ⟨[.ref a], []⟩ Q (fun _ _ _ => False) (a, oe) c C nm dx z (L2H.roomH_mark m5 _) (hot_of hz hf) hpin I1.env0 bd m4 hz.zc e1 ?_ ez fun H' g => h _ H' g (.str _)) fun rr s' hq => ?_)
      · rcases e2 with ⟨_, _, e3⟩ | ⟨_, d, l, vs, e3, hdd, _⟩
        · exact .inl e3
        · exact .inr ⟨d, l, e3, hdd⟩
      · cases rr with
        | error er =>
          obtain ⟨_, _, _, _, _, _, _, _, _, _, _, _, z⟩ := hq
          exact z.elim
        | ok fl =>
          cases fl with
          | ret u => exact I1.after hq
          | next => exact False.elim hq
          | brk => exact False.elim hq
          | cont => exact False.elim hq
theorem hs_whole (ok : XOk G cl W φ s X) (xh : XHot G cl X) {f : Nat} {x : Str} {q pos : Pos} {y : HE} {l : Expr} (hfn : fnAt G f x = true) (h1 : isGl s x = true) (h2 : nmOk x = true) (hk : f ∈ G.hot.who) (hs : isStar l = false) (hz : L2N.Zn (.ref C) dx oe) (hf : ∃ vs, oe.data = .fields vs)
    (ha : SndH (X.suite a ((a, oe) :: pn)) X.K cl i a C dx c fs l fun r => evHE c fs r y) : SndH (X.suite a ((a, oe) :: pn)) X.K cl i a C dx c fs (.Call (.Name x q) [l] [] pos) fun r => evHE c fs r (.whole f y) := by
  have e : G.fna[f]? = some x := by
    unfold fnAt at hfn
    split at hfn
    · rename_i y e
      rw [e, of_decide_eq_true hfn]
    · cases hfn
  obtain ⟨k, fa, fd, ps, m1, m2, m3, m5, m6⟩ := xh.who f x hk e
  refine hs_mk (PE.imp' (L2H.pe_callH (X := X.suite a ((a, oe) :: pn)) (E := fun _ _ _ _ => False) m6 (L2H.roomH_mark m5 _) ⟨(a, oe), hot_of hz hf, List.mem_cons_self⟩ (ok.gl h1) m1 m2 m3 (fun σ pins H s e s' I z => ?_) (pa_1 ha.1 hs) (nmOk_1 h2).1 (star_cons hs) (star_any rfl)) ?_)
  · obtain ⟨_, _, _, _, _, _, _, _, _, _, _, _, z⟩ := z
    exact z.elim
  · rintro σ H Q ⟨A, r, z, hd, e, h⟩
    have e : (match evHE c fs r y with | some (.int _) => some (PyData.bool true) | _ => none) = some z := e
    split at e
    · rename_i j ej
      cases e
      exact ⟨A, r, .int j, hd, ej, fun v H' g rv => by
        cases rv
        exact ⟨j, rfl, h _ H' g (.bl _)⟩⟩
    · cases e
theorem hs_pair {Y : Cx} {x y : HE} {l r : Expr} {k : Nat} {p : Pos} (s1 : isStar l = false) (s2 : isStar r = false) (ha : SndH Y Y.K cl i a C dx c fs l fun r => evHE c fs r x) (hb : SndH Y Y.K cl i a C dx c fs r fun r => evHE c fs r y) : SndH Y Y.K cl i a C dx c fs (.Tuple [l, r] k p) fun r => evHE c fs r (.pair x y) := by
  refine hs_mk (PE.imp' (pe_tup (pa_cons ha.1 (pa_1 hb.1 s2) (star_cons s1))) ?_)
  rintro σ H Q ⟨A, r, z, hd, e, h⟩
  have e : (match evHE c fs r x, evHE c fs r y with | some u, some v => some (PyData.tuple [u, v]) | _, _ => none) = some z := e
  split at e
  · rename_i u v e1 e2
    cases e
    refine ⟨A, r, u, hd, e1, fun v1 H1 g1 r1 => ⟨A, r, v, hd.grow g1, e2, fun v2 H2 g2 r2 => ⟨by simp [sizeLine_eq], fun q hq => ?_⟩⟩⟩
    have R2 := ((hd.grow g1).grow g2).R
    have g3 : ∀ p o, H2 p = some o → upd H2 q (.tup [v1, v2]) p = some o := fun p o z => Ev.grow hq p o z
    refine h _ _ (fun p o z => g3 p o (g2 p o (g1 p o z))) (.tup (R2.av.na hq) upd_same (.cons ?_ (.cons ?_ .nil)))
    · exact r1.step (fun p o z _ => g3 p o (g2 p o z)) fun p z => .inl z
    · exact r2.step (fun p o z _ => g3 p o z) fun p z => .inl z
  · cases e
theorem ev_cp2 {r : Rho} {x y : HE} {z : PyData} {o : Cp} (h : (match evHE c fs r x, evHE c fs r y with | some u, some v => (cpD o u v).map PyData.bool | _, _ => none) = some z) : ∃ xa xb k, evHE c fs r x = some xa ∧ evHE c fs r y = some xb ∧ cpD o xa xb = some k ∧ z = .bool k := by
  split at h
  · rename_i u v e1 e2
    cases e : cpD o u v with
    | none => rw [e] at h; cases h
    | some k => rw [e] at h; cases h; exact ⟨u, v, k, e1, e2, e, rfl⟩
  · cases h
/-- what stands in the suite -/
theorem sound_HE (ok : XOk G cl W φ s X) (xx : XEx G cl X) (xh : XHot G cl X) (g1 : isVis s n = true) (g2 : nmOk n = true) (g3 : atN G i n = true) (hz : L2N.Zn (.ref C) dx oe) (hf : ∃ vs, oe.data = .fields vs) : ∀ (e : HE) (ex : Expr), chkHE G s n e ex = true →
    SndH (X.suite a ((a, oe) :: pn)) X.K cl i a C dx c fs ex fun r => evHE c fs r e := by
  intro e
  induction e with
  | str x =>
    intro ex h
    unfold chkHE at h
    split at h
    · obtain rfl := of_decide_eq_true h
      exact hs_mk (PE.imp' pe_str (hv_c fun A H => .str _))
    · cases h
  | int x =>
    intro ex h
    unfold chkHE at h
    split at h
    · obtain rfl := of_decide_eq_true h
      exact hs_mk (PE.imp' pe_int (hv_c fun A H => .int _))
    · cases h
  | nint x =>
    intro ex h
    unfold chkHE at h
    split at h
    · obtain rfl := of_decide_eq_true h
      exact hs_mk (PE.imp' (pe_un un_neg pe_int) fun σ H Q h => ⟨_, rfl, hv_c (fun A H => .int _) σ H Q h⟩)
    · cases h
  | bl x =>
    intro ex h
    unfold chkHE at h
    split at h
    · obtain rfl := beq_iff_eq.mp h
      exact hs_mk (PE.imp' pe_bl (hv_c fun A H => .bl _))
    · cases h
  | non =>
    intro ex h
    unfold chkHE at h
    split at h
    · exact hs_mk (PE.imp' pe_non (hv_c fun A H => .non))
    · cases h
  | var j =>
    intro ex h
    unfold chkHE at h
    split at h
    · simp only [Bool.and_eq_true] at h
      exact hs_var ok h.1.1 h.1.2 h.2
    · cases h
  | fld z k j =>
    intro ex h
    unfold chkHE at h
    split at h
    · simp only [Bool.and_eq_true, decide_eq_true_eq] at h
      obtain ⟨⟨rfl, rfl⟩, h3⟩ := h
      exact hs_fld ok xx xh g1 g2 g3 h3 hz.zc hf
    · cases h
  | kind f tbl =>
    intro ex h
    unfold chkHE at h
    split at h
    · simp only [Bool.and_eq_true, decide_eq_true_eq, List.any_eq_true] at h
      obtain ⟨⟨⟨⟨h1, h2⟩, h3⟩, rfl⟩, p, h5, rfl⟩ := h
      exact hs_kind ok xh h1 h2 h3 h5 g1 g2 g3 hz hf
    · cases h
  | whole f x ih =>
    intro ex h
    unfold chkHE at h
    split at h
    · simp only [Bool.and_eq_true, decide_eq_true_eq, List.any_eq_true, Bool.not_eq_true'] at h
      obtain ⟨⟨⟨⟨⟨h1, h2⟩, h3⟩, p, h5, rfl⟩, h6⟩, h7⟩ := h
      exact hs_whole ok xh h1 h2 h3 h5 h6 hz hf (ih _ h7)
    · cases h
  | eq x y ihx ihy =>
    intro ex h
    unfold chkHE at h
    split at h
    · simp only [Bool.and_eq_true, Bool.not_eq_true'] at h
      exact hs_cp (Y := X.suite a ((a, oe) :: pn)) (o := .eq) ok.units rfl (ihx _ h.1.1).1 (ihy _ h.1.2).1 h.2 fun r z q => ev_cp2 q
    · cases h
  | ne x y ihx ihy =>
    intro ex h
    unfold chkHE at h
    split at h
    · simp only [Bool.and_eq_true, Bool.not_eq_true'] at h
      exact hs_cp (Y := X.suite a ((a, oe) :: pn)) (o := .ne) ok.units rfl (ihx _ h.1.1).1 (ihy _ h.1.2).1 h.2 fun r z q => ev_cp2 q
    · cases h
  | isN x ihx =>
    intro ex h
    unfold chkHE at h
    split at h
    · exact hs_cp (Y := X.suite a ((a, oe) :: pn)) (o := .isN) (eb := fun _ => some .none) ok.units rfl (ihx _ h).1 (PE.imp' pe_non (hv_c fun A H => .non)) rfl fun r z q => by
        have q : (match evHE c fs r x with | some u => (cpD .isN u .none).map PyData.bool | _ => none) = some z := q
        split at q
        · rename_i u e1
          cases e : cpD .isN u .none with
          | none => rw [e] at q; cases q
          | some k => rw [e] at q; cases q; exact ⟨u, .none, k, e1, rfl, e, rfl⟩
        · cases q
    · cases h
  | and x y ihx ihy =>
    intro ex h
    unfold chkHE at h
    split at h
    · rename_i l r rest pos
      simp only [Bool.and_eq_true] at h
      refine hs_and (ihx _ h.1) (fun e => ?_) fun e => ?_
      · subst e
        exact ihy _ h.2
      · cases rest with
        | nil => exact absurd rfl e
        | cons b bs => exact ihy _ h.2
    · cases h
  | or x y ihx ihy =>
    intro ex h
    unfold chkHE at h
    split at h
    · rename_i l r rest pos
      simp only [Bool.and_eq_true] at h
      refine hs_or (ihx _ h.1) (fun e => ?_) fun e => ?_
      · subst e
        exact ihy _ h.2
      · cases rest with
        | nil => exact absurd rfl e
        | cons b bs => exact ihy _ h.2
    · cases h
  | not x ihx =>
    intro ex h
    unfold chkHE at h
    split at h
    · exact hs_not (ihx _ h)
    · cases h
  | pair x y ihx ihy =>
    intro ex h
    unfold chkHE at h
    split at h
    · simp only [Bool.and_eq_true, Bool.not_eq_true'] at h
      exact hs_pair h.1.2 h.2 (ihx _ h.1.1.1) (ihy _ h.1.1.2)
    · cases h
theorem ret_hs {K : PySem.W.Frag} {A : Addr → Prop} {σ : Sg} {r : Rho} {H : Hp} {D : Ends} {x : PyData} (hd : Held K cl A σ r H i a C dx c fs) (h : PostS K cl (fun _ _ _ _ => False) A σ r H D (.ret x false r)) : ∀ v H', (∀ p o, H p = some o → H' p = some o) → Rep (Av A σ r) H' v x → D.rt v H' :=
  fun v H' g rv => h v σ H' ⟨(Stp.grow g).q, (hd.grow g).R, rv⟩
theorem sound_HS (ok : XOk G cl W φ s X) (xx : XEx G cl X) (xh : XHot G cl X) (g1 : isVis s n = true) (g2 : nmOk n = true) (g3 : atN G i n = true) (hz : L2N.Zn (.ref C) dx oe) (hf : ∃ vs, oe.data = .fields vs) : ∀ (hs : List HS) (sts : List Stmt), chkHS G s i n hs sts = true →
    PSs (X.suite a ((a, oe) :: pn)) sts (tHs X.K cl i a C dx c fs (evHS c fs hs)) := by
  intro hs
  induction hs with
  | nil =>
    intro sts h
    cases sts with
    | cons b bs => cases h
    | nil =>
      refine PSs.imp' pss_nil ?_
      rintro D σ H ⟨A, r, hd, h⟩
      exact h σ H .refl hd.R
  | cons x hs ih =>
    intro sts h
    cases x with
    | asg j e =>
      unfold chkHS at h
      split at h
      · rename_i y p ex pos rest
        simp only [Bool.and_eq_true, decide_eq_true_eq, Bool.not_eq_true'] at h
        obtain ⟨⟨⟨⟨⟨h1, h2⟩, h3⟩, h4⟩, h5⟩, h6⟩ := h
        obtain ⟨hl, hff⟩ := ok.set_ h2
        refine PSs.imp' (pss_cons (ps_set (X := X.suite a ((a, oe) :: pn)) (show X.N.Nodup from chk_ne ok) (ok.at_ h1) hl (sound_HE (c := c) (fs := fs) ok xx xh g1 g2 g3 hz hf e ex h4).1 (swaps_no h5) hff) (ih _ h6)) ?_
        rintro D σ H ⟨A, r, hd, hh⟩
        unfold evHS at hh
        split at hh
        · rename_i z ez
          refine ⟨A, r, z, hd, ez, fun v H' g rv => ?_⟩
          have hd2 := hd.grow g
          obtain ⟨k1, k2, k3⟩ := hd2.R.put (i := j) rv
          refine ⟨A, _, ⟨k1, ?_, hd2.ex.mono fun q z => z.imp id (k3 q)⟩, PostS.back ((Stp.grow g).q.trans k2) (fun _ z => z) hh⟩
          rw [List.getElem?_set_ne h3]
          exact hd2.at_
        · exact hh.elim
      · cases h
    | ret e =>
      unfold chkHS at h
      split at h
      · rename_i ex pos rest
        simp only [Bool.and_eq_true] at h
        refine PSs.imp' (pss_cons (ps_ret (sound_HE (c := c) (fs := fs) ok xx xh g1 g2 g3 hz hf e ex h.1).1) (ih _ h.2)) ?_
        rintro D σ H ⟨A, r, hd, hh⟩
        unfold evHS at hh
        split at hh
        · rename_i z ez
          exact ⟨A, r, z, hd, ez, ret_hs hd hh⟩
        · exact hh.elim
      · cases h
    | ifR k e =>
      unfold chkHS at h
      split at h
      · rename_i kx ex p pos rest
        simp only [Bool.and_eq_true] at h
        obtain ⟨⟨h1, h2⟩, h3⟩ := h
        refine PSs.imp' (pss_cons (ps_if (sound_HE (c := c) (fs := fs) ok xx xh g1 g2 g3 hz hf k kx h1).2 (pss_one (ps_ret (sound_HE (c := c) (fs := fs) ok xx xh g1 g2 g3 hz hf e ex h2).1)) pss_nil) (ih _ h3)) ?_
        rintro D σ H ⟨A, r, hd, hh⟩
        unfold evHS at hh
        split at hh
        · rename_i ek
          split at hh
          · rename_i z ez
            exact ⟨A, r, true, hd, ek, fun H' g => ⟨A, r, z, hd.grow g, ez, fun v H2 g' rv => ret_hs hd hh v H2 (fun p o z => g' p o (g p o z)) rv⟩⟩
          · exact hh.elim
        · rename_i ek
          exact ⟨A, r, false, hd, ek, fun H' g => ⟨A, r, hd.grow g, PostS.back (Stp.grow g).q (fun _ z => z) hh⟩⟩
        · exact hh.elim
      · cases h
/-- try .. except WebError as n -/
theorem XOk.tr (ok : XOk G cl W φ s X) {W' : WX} {pn : List (Addr × Obj)} {xe : Value → Shared → Prop} (own : PassesOwn (model X.prog X.w) X.A X.env xe) (tk : L2N.Takes (X.tr pn xe) W') : XOk G cl W' φ s (X.tr pn xe) :=
  ⟨ok.calm, ok.n, ok.nd, ok.sc, ok.kind, ok.fn, ok.units, own, tk, ok.blt, ok.fns, ok.con⟩
theorem XEx.tr (xx : XEx G cl X) {pn : List (Addr × Obj)} {xe : Value → Shared → Prop} : XEx G cl (X.tr pn xe) := ⟨xx.stk, xx.frm, xx.cls⟩
theorem XHot.tr (xh : XHot G cl X) {pn : List (Addr × Obj)} {xe : Value → Shared → Prop} : XHot G cl (X.tr pn xe) := ⟨xh.web, xh.fld, xh.nod, xh.kin, xh.who⟩
theorem ss_try (ok : XOk G cl W φ s X) (xx : XEx G cl X) (xh : XHot G cl X) {b : Ss} {h : List HS} {x : Str} {np pos pos' : Pos} {body hb : List Stmt} (hc : chkCatch G s i x n h hb = true)
    (hbody : ∀ {W' : WX} {X' : Cx}, XOk G cl W' φ s X' → XEx G cl X' → XHot G cl X' → PSs X' body (tSv X'.K cl W' (evSs φ b))) : PS X (.Try body [.ExceptHandler (some (.Name x np)) (some n) hb pos'] [] [] pos) (tSv X.K cl W (evS φ (.try_ b i h))) := by
  unfold chkCatch at hc
  simp only [Bool.and_eq_true, decide_eq_true_eq, Bool.not_eq_true'] at hc
  obtain ⟨⟨⟨⟨⟨⟨⟨⟨⟨rfl, h1⟩, h2⟩, h3⟩, h4⟩, h5⟩, h6⟩, h7⟩, h8⟩, h9⟩ := hc
  obtain ⟨CW, w1, w2⟩ := xh.web h3
  cases hb with
  | nil => cases h8
  | cons b₀ suite =>
    have hln : X.env.kindOf n = some .local := by
      show X.env.scope.names.lookup n = _
      rw [ok.sc]
      unfold isLoc kd at h4
      cases e : s.rel.names.lookup n with
      | none => rw [e] at h4; cases h4
      | some k => rw [e] at h4; cases k <;> first | rfl | cases h4
    refine PS.imp' (L2N.ps_try_as (i := i) (tb := fun W' => tSv X.K cl W' (evSs φ b)) (ts := fun a cls d D σ H => ∃ c fs C, cls = .ref C ∧ tHs X.K cl i a C d c fs (evHS c fs h) D σ H) xx.stk xx.frm (chk_ne ok) (ok.at_ h7) hln ⟨ok.gl h1, (nmOk_1 h2).1, .inl w1⟩ ok.tk
      (fun W' pn xe tk own => hbody (ok.tr own tk) xx.tr xh.tr)
      (fun a oe cls d pn hz hf => ⟨fun pins s0 σ H D I ⟨c, fs, C, e, hh⟩ => ?_⟩)) ?_
    · subst e
      exact (sound_HS ok xx xh h5 h6 h7 hz hf h _ h9).run pins s0 σ H D I hh
    · rintro D σ H ⟨A, r, R, hh⟩
      refine ⟨A, r, R, ?_⟩
      have hh : PostS X.K cl W A σ r H D (catchS i h (evSs φ b r)) := hh
      cases ev : evSs φ b r with
      | stuck => rw [ev] at hh; exact hh
      | next r1 => rw [ev] at hh; exact hh
      | ret d fr r1 => rw [ev] at hh; exact hh
      | exc c fs r1 =>
        rw [ev] at hh
        intro C dx σ' H' sq R1 xo
        obtain ⟨nm, e1, e2⟩ := id xo
        refine ⟨true, w2 c C nm e1, fun _ a ha => ⟨c, fs, C, rfl, ?_⟩, fun z => by cases z⟩
        have hh : PostS X.K cl W A σ r H D (if i < r1.length then goneS i (evHS c fs h (r1.set i none)) else .stuck) := hh
        split at hh
        · rename_i hl
          obtain ⟨k1, k2, k3⟩ := R1.hide i (some (.ref a))
          refine ⟨A, r1.set i none, ⟨k1, List.getElem?_set_self (by rw [R1.len]; exact hl), xo.mono fun q z => z.imp id (k3 q)⟩, ?_⟩
          cases ev2 : evHS c fs h (r1.set i none) with
          | stuck => rw [ev2] at hh; exact hh.elim
          | exc _ _ _ => rw [ev2] at hh; exact hh.elim
          | next r2 =>
            rw [ev2] at hh
            intro σ2 H2 s2 R2
            obtain ⟨l1, l2, l3⟩ := R2.hide i none
            exact hh _ _ (((sq.trans k2).trans s2).trans l2) l1
          | ret d fr r2 =>
            rw [ev2] at hh
            have hh : PostS X.K cl W A σ r H D (if fr then .stuck else .ret d false (r2.set i none)) := hh
            cases fr with
            | true => exact hh.elim
            | false =>
              intro v σ2 H2 ⟨s2, R2, rv⟩
              obtain ⟨l1, l2, l3⟩ := R2.hide i none
              exact hh v _ _ ⟨((sq.trans k2).trans s2).trans l2, l1, rv.mono fun q z => z.imp id (l3 q)⟩
        · exact hh.elim
end
end Ev
/-! Errors caught: what kind they are (a def called where one is handled), whether a field is a whole number. -/
namespace Ev
open PySem PySem.Spec PyProof.Rows L2

/-! ### isinstance(e, X) -/
/-- what a class of errors must say so that isinstance asks its instances rightly -/
def kxB (K : PySem.W.Frag) (C : Addr) : Bool := (PySem.W.clsIn K C).isSome && (decide (PySem.W.findIn K (.ref C) "__getattribute__" = some (some (.builtin "BaseException.__getattribute__"))) && (decide (PySem.W.findIn K (.ref C) "__getattr__" = some none) &&
  (decide (PySem.W.subIn K (.ref C) (.type "BaseException") = some true) && (decide (PySem.W.findIn K (.ref C) "__class__" = some (some (.builtin "object.__class__"))) && (decide (PySem.W.specialIn K (.builtin "object.__class__") "__get__" = some (some (.builtin "getset_descriptor.__get__"))) &&
  (decide (PySem.W.takesIn K (.builtin "object.__class__") = some true) && (decide (PySem.W.mroIn K C (.type "object") = some true) && decide (PySem.W.kitOne K (.ref C) (.type "ValueError") = some true))))))))
theorem kx_of {K : PySem.W.Frag} {C x : Addr} {ox : Obj} {od : Option Obj} (h : kxB K C = true) : PySem.W.KitX K (.ref x) (.ref C) (fun h => PySem.W.InstAt h x ox C od) ∧ PySem.W.kitOne K (.ref C) (.type "ValueError") = some true := by
  unfold kxB at h
  simp only [Bool.and_eq_true, decide_eq_true_eq] at h
  obtain ⟨h1, h2, h3, h4, h5, h6, h7, h8, h9⟩ := h
  exact ⟨PySem.W.kitx_exc h1 h2 h3 h4 h5 h6 h7 h8, h9⟩
/-- isinstance(e, d): e the error that stands in a -/
def rIsX (K : PySem.W.Frag) (C a : Addr) (dx : Option Addr) : List V → Hp → VK → Prop := fun xs H Q => ∃ (d : V) (b : Bool), xs = [.ref a, d] ∧ (∀ u, RelV d u → PySem.W.kitOne K (.ref C) u = some b) ∧ (dx = none ∨ ∃ dd l, dx = some dd ∧ H dd = some (.xd l)) ∧ Q (.bl b) H
theorem call_isX {Y : Cx} {a C : Addr} {oe : Obj} {dx : Option Addr} (hp : (a, oe) ∈ Y.pn) (hz : Zc (.ref C) dx oe) (hf : ∃ vs, oe.data = .fields vs) (hk : kxB Y.K C = true) : CallR Y (.builtin "isinstance") (rIsX Y.K C a dx) := by
  intro pins s σ H xs us Q I r h
  obtain ⟨d, b, rfl, hb, hdx, q⟩ := h
  cases r with
  | cons rx rr =>
    rename_i ux ur
    cases rr with
    | cons rt rn =>
      rename_i ut un
      cases rn
      obtain rfl : ux = Value.ref a := rx
      have got := (I.pin (a, oe) (List.mem_append_left _ hp)).1
      obtain ⟨vs, hv⟩ := hf
      have nc : PySem.W.notCls oe = true := by
        unfold PySem.W.notCls
        rw [hv] <;> rfl
      have fin : ∀ od : Option Obj, PySem.W.InstAt s.heap a oe C od → wpAny (model Y.prog Y.w) Y.A (call (.builtin "isinstance") [.ref a, ut]) (EP Y pins σ Q) Y.xe s := fun od J =>
        PySem.W.kia_one (kx_of (ox := oe) (od := od) hk).1 I.kIn J (hb _ rt) (fun z => nomatch z) fun tk => ⟨.bl b, H, I.kept (t' := tk) fun _ _ z => z, rfl, q⟩
      rcases hdx with e | ⟨dd, l, e, hl⟩
      · refine fin none ⟨got, hz.1, nc, ?_⟩
        rw [hz.2, e]
        trivial
      · have x : ObjOk Y.prog Y.w H s.heap dd (.xd l) := I.hok dd _ hl
        obtain ⟨mA, hns, hr⟩ := x
        obtain ⟨od, ho, _⟩ := lookIn_ns hns
        refine fin (some od) ⟨got, hz.1, nc, ?_⟩
        rw [hz.2, e]
        exact ho
/-! ### xs.count(True) -/
def rCntB (K : PySem.W.Frag) : V → List V → Hp → VK → Prop := fun x xs H Q => ∃ (p : Addr) (bs : List Bool), x = .ref p ∧ xs = [.bl true] ∧ SqL K H p (bs.map V.bl) ∧ Q (.int (bs.count true : Nat)) H
theorem reads_bools {h : Heap} : ∀ {bs : List Bool} {its : List Value}, Vals (bs.map V.bl) its → ∃ as, ReadsAll h its (bs.map PyData.bool) as
  | [], _, r => by
    cases r
    exact ⟨[], .nil⟩
  | b :: bs, _, r => by
    cases r with
    | cons r1 r2 =>
      obtain ⟨as, e⟩ := reads_bools (h := h) r2
      cases r1
      exact ⟨_, .cons (.bool b) e⟩
theorem plain_bools : ∀ bs : List Bool, PyData.plainAll (bs.map PyData.bool) = true
  | [] => rfl
  | b :: bs => by
    show (PyData.plain (.bool b) && PyData.plainAll (bs.map PyData.bool)) = true
    rw [plain_bools bs]
    rfl
theorem depth_bools : ∀ bs : List Bool, PyData.depthAll (bs.map PyData.bool) ≤ 1
  | [] => by decide
  | b :: bs => by
    have h := depth_bools bs
    have e : PyData.depthAll ((b :: bs).map PyData.bool) = max (PyData.depth (.bool b)) (PyData.depthAll (bs.map PyData.bool)) := by rw [List.map_cons]; rfl
    have e2 : PyData.depth (.bool b) = 0 := rfl
    omega
theorem count_bools : ∀ bs : List Bool, (bs.map PyData.bool).countP (fun y => PyData.eqv y (.bool true)) = bs.count true
  | [] => rfl
  | b :: bs => by
    rw [List.map_cons, List.countP_cons, count_bools bs, List.count_cons]
    cases b <;> rfl
theorem mt_cntB {X : Cx} (hu : X.A.units + 65 < cLine) : MtR X "list.count" (rCntB X.K) := by
  intro pins s σ H x xs v us Q I rx rxs h
  obtain ⟨p, bs, rfl, rfl, hs, q⟩ := h
  cases rx
  obtain ⟨u, rfl, ru⟩ := rxs.one
  obtain rfl : u = Value.bool true := ru
  obtain ⟨its, rv, hl, hlen⟩ := I.list hs
  obtain ⟨as, ra⟩ := reads_bools (h := s.heap) rv
  have d := depth_bools bs
  refine PySem.SeqAt.count_list_data (d := .bool true) (xs := bs.map PyData.bool) hl.isList (show ReadsAll s.heap its.toArray.toList _ as from ra) (.bool true) (plain_bools bs) rfl (by have := Nat.min_le_left (PyData.depthAll (bs.map PyData.bool)) (PyData.depth (.bool true)); omega) ?_
  rw [count_bools]
  exact ⟨.int (bs.count true : Nat), H, I.kept (t' := s.toks + 1) fun _ _ z => z, ⟨_, rfl⟩, q⟩
end Ev
/-! Defs called where an error is handled. -/
namespace Ev
open PySem PySem.Spec PyProof.Rows L2
def isIs (s : Sc) (n cn : Str) : Expr → Bool
  | .Call (.Name f _) [.Name y _, .Name z _] [] _ => decide (f = sIsi) && isGl s f && decide (y = n) && decide (z = cn) && isGl s z && nmOk z
  | _ => false
def isIss (s : Sc) (n : Str) : List Str → List Expr → Bool
  | [], [] => true
  | c :: cs, l :: ls => !isStar l && isIs s n c l && isIss s n cs ls
  | _, _ => false
def strsB : List Str → List Expr → Bool
  | [], [] => true
  | w :: ws, l :: ls => (match l with
    | .Constant (.str x) _ _ => decide (x = w)
    | _ => false) && !isStar l && strsB ws ls
  | _, _ => false
section
variable {Y : Cx} {s : Sc} {n : Str} {a C : Addr} {dx : Option Addr} {oe : Obj} {c : Nat}
def dxAt (dx : Option Addr) (H : Hp) : Prop := dx = none ∨ ∃ d l, dx = some d ∧ H d = some (.xd l)
theorem gl_of {x : Str} (hs : Y.env.scope = s.rel) (h : isGl s x = true) : Gl Y x := by
  unfold isGl kd at h
  show Y.env.scope.names.lookup x = _
  rw [hs]
  cases e : s.rel.names.lookup x with
  | none => rw [e] at h; cases h
  | some k => rw [e] at h; cases k <;> first | rfl | cases h
/-- isinstance(e, X), .. in a def that e is handed to -/
structure IsCx (Y : Cx) (s : Sc) (n : Str) (a C : Addr) (oe : Obj) (dx : Option Addr) : Prop where
  sc : Y.env.scope = s.rel
  blt : ∀ x ∈ bltN, Y.mg x = none
  at_ : Y.N[0]? = some n
  vis : Vis Y.env.scope n
  nm : nmOk n = true
  hp : (a, oe) ∈ Y.pn
  hz : Zc (.ref C) dx oe
  hf : ∃ vs, oe.data = .fields vs
  hk : kxB Y.K C = true
theorem pe_isX (ix : IsCx Y s n a C oe dx) {cn : Str} {ex : Expr} (h : isIs s n cn ex = true) {Cj : Value} {b : Bool} (hb : PySem.W.kitOne Y.K (.ref C) Cj = some b) {v : V} (hv : ∀ u, RelV v u → u = Cj) (hcn : ∀ p, Gl Y cn → PE Y (.Name cn p) (tC v)) :
    PE Y ex (fun σ H Q => σ[0]? = some (some (.ref a)) ∧ dxAt dx H ∧ Q (.bl b) H) := by
  unfold isIs at h
  split at h
  · simp only [Bool.and_eq_true, decide_eq_true_eq] at h
    obtain ⟨⟨⟨⟨⟨rfl, h1⟩, rfl⟩, rfl⟩, h2⟩, h3⟩ := h
    refine PE.imp' (pe_callB (call_isX ix.hp ix.hz ix.hf ix.hk) (gl_of ix.sc h1) (ix.blt _ (by simp [bltN])) PyProof.Rows.boot_isinstance (pa_cons (pe_var ix.at_ ix.vis (nmOk_1 ix.nm).1 (nmOk_1 ix.nm).2) (pa_1 (hcn _ (gl_of ix.sc h2)) rfl) (star_cons rfl)) (he := star_cons rfl)) ?_
    rintro σ H Q ⟨e, hd, q⟩
    exact ⟨_, e, v, b, rfl, fun u ru => by rw [hv u ru]; exact hb, hd, q⟩
  · cases h
/-- .. many -/
theorem pa_isX (ix : IsCx Y s n a C oe dx) (f : Nat → Bool) : ∀ (cs : List Str) (ls : List Expr) (o : Nat), isIss s n cs ls = true → (∀ j x, cs[j]? = some x → ∃ Cj, Y.mg x = some (.ref Cj) ∧ nmOk x = true ∧ PySem.W.kitOne Y.K (.ref C) (.ref Cj) = some (f (o + j))) →
    PA Y ls (fun σ H Q => σ[0]? = some (some (.ref a)) ∧ dxAt dx H ∧ Q ((List.range cs.length).map fun j => V.bl (f (o + j))) H)
  | [], ls, o, h, _ => by
    cases ls with
    | cons l ls => cases h
    | nil => exact PA.imp' pa_nil fun σ H Q ⟨_, _, q⟩ => q
  | x :: cs, ls, o, h, hc => by
    cases ls with
    | nil => cases h
    | cons l ls =>
      unfold isIss at h
      simp only [Bool.and_eq_true, Bool.not_eq_true'] at h
      obtain ⟨⟨h1, h2⟩, h3⟩ := h
      obtain ⟨Cj, m1, m2, m3⟩ := hc 0 x rfl
      have p1 := pe_isX (Y := Y) ix h2 m3 (v := .ref Cj) (fun u ru => ru) fun p g => pe_glob g m1 rfl (nmOk_1 m2).1
      have p2 := pa_isX ix f cs ls (o + 1) h3 fun j y e => by
        obtain ⟨Cj, k1, k2, k3⟩ := hc (j + 1) y e
        exact ⟨Cj, k1, k2, by rw [show o + 1 + j = o + (j + 1) by omega]; exact k3⟩
      refine PA.imp' (pa_cons p1 p2 (star_cons h1)) ?_
      rintro σ H Q ⟨e, hd, q⟩
      refine ⟨e, hd, e, hd, ?_⟩
      have e2 : (List.range (x :: cs).length).map (fun j => V.bl (f (o + j))) = V.bl (f (o + 0)) :: (List.range cs.length).map fun j => V.bl (f (o + 1 + j)) := by
        rw [List.length_cons, List.range_succ_eq_map, List.map_cons, List.map_map]
        congr 1
        refine List.map_congr_left fun j _ => ?_
        show V.bl (f (o + (j + 1))) = V.bl (f (o + 1 + j))
        rw [show o + 1 + j = o + (j + 1) by omega]
      rw [e2] at q
      exact q
theorem pa_strs : ∀ (ws : List Str) (ls : List Expr), strsB ws ls = true → PA Y ls (fun σ H Q => Q (ws.map V.str) H)
  | [], ls, h => by
    cases ls with
    | cons l ls => cases h
    | nil => exact pa_nil
  | x :: ws, ls, h => by
    cases ls with
    | nil => cases h
    | cons l ls =>
      unfold strsB at h
      simp only [Bool.and_eq_true, Bool.not_eq_true'] at h
      obtain ⟨⟨h1, h2⟩, h3⟩ := h
      split at h1
      · obtain rfl := of_decide_eq_true h1
        exact pa_cons pe_str (pa_strs ws ls h3) (star_cons h2)
      · cases h1
end
def sAppend : Str := "append"
def sCount : Str := "count"
def sVE : Str := "ValueError"
/-- the def that tells an error's kind -/
def chkKind (s : Sc) (N names words : List Str) (body : List Stmt) : Bool := match N, body with
  | [n, m, w], [.Assign [.Name m1 _] (.List l1 _) _, .Assign [.Name m2 _] (.BinOp (.Name m3 _) .Add (.List l2 _) _) _, .Expr (.Call (.Attribute (.Name m4 _) ap a1) [l9] [] c1) _,
      .If (.BoolOp .Or [.UnaryOp .Not ve _, .Compare (.Call (.Attribute (.Name m5 _) cn a2) [.Constant (.bool true) _ _] [] c2) [.NotEq] [.Constant (.int 1) _ _] _] _) [.Return (some (.Constant (.str _) _ _)) _] [] _,
      .Assign [.Name w1 _] (.List ws _) _, .Return (some (.Subscript (.Name w2 _) (.Call (.Attribute (.Name m6 _) ix a3) [.Constant (.bool true) _ _] [] c3) _)) _] =>
    decide (m1 = m) && decide (m2 = m) && decide (m3 = m) && decide (m4 = m) && decide (m5 = m) && decide (m6 = m) && decide (w1 = w) && decide (w2 = w) && (decide (ap = sAppend) && decide (cn = sCount) && decide (ix = sIndex) && (a1.endLine == c1.line) && (a2.endLine == c2.line) && (a3.endLine == c3.line) &&
      (isLoc s n && isLoc s m && isLoc s w && isVis s n && isVis s m && isVis s w && nmOk n && nmOk m && nmOk w && (!isStar l9 && isIss s n (names.take 4) l1 && isIss s n ((names.drop 4).take 4) l2 && isIs s n (names.getD 8 "") l9 && isIs s n sVE ve && strsB words ws)))
  | _, _ => false
section
variable {P : Program} {w : World} {K : PySem.W.Frag} {mg : Str → Option Value} {base : Heap} {k : Nat} {x qual : Str} {params : Arguments} {body : List Stmt} {scope : Scope} {f : Addr} {fd : FuncData} {N ps names words : List Str} {cl : ClsT}
/-- its body -/
theorem isLoc_loc {Y : Cx} {s : Sc} {x : Str} (hs : Y.env.scope = s.rel) (h : isLoc s x = true) : L2.Loc Y.env.scope x ∧ Y.env.scope.names.lookup x = some .local := by
  unfold isLoc kd at h
  rw [hs]
  unfold L2.Loc
  cases e : s.rel.names.lookup x with
  | none => rw [e] at h; cases h
  | some k => rw [e] at h; cases k <;> first | exact ⟨.inl rfl, rfl⟩ | cases h
theorem isLoc_vis {Y : Cx} {s : Sc} {x : Str} (hs : Y.env.scope = s.rel) (h : isLoc s x = true) : Vis Y.env.scope x := .inl (isLoc_loc hs h).2
/-- where the run stands behind the nine looks -/
theorem kind_run {Y : Cx} {a : Addr} {c : Nat} {dx : Option Addr} {z : Str} {words : List Str} {H : Hp} {D : Ends} {oth : Str} (hw : words.length = 9) (ez : words[c]? = some z) (hd : dxAt dx H) (q : ∀ H', (∀ p o, H p = some o → H' p = some o) → D.rt (.str z) H') :
    tSeq (tAsg (tLst fun σ H Q => σ[0]? = some (some (.ref a)) ∧ dxAt dx H ∧ Q ([decide (c = 0), decide (c = 1), decide (c = 2), decide (c = 3)].map V.bl) H) (gName 1))
      (tSeq (tAsg (tOp (rD2 (op2D .add)) (tVar 1) (tLst fun σ H Q => σ[0]? = some (some (.ref a)) ∧ dxAt dx H ∧ Q ([decide (c = 4), decide (c = 5), decide (c = 6), decide (c = 7)].map V.bl) H)) (gName 1))
        (tSeq (tDrop (tBM Y.K "list" rAppend (tVar 1) (tCons (fun σ H Q => σ[0]? = some (some (.ref a)) ∧ dxAt dx H ∧ Q (.bl (decide (c = 8))) H) tNil)))
          (tSeq (tIfS (tOr (tNot fun σ H Q => σ[0]? = some (some (.ref a)) ∧ dxAt dx H ∧ ∃ k, TruV Y.K (.bl true) H k ∧ Q k H) (tTest (tOp (rCp Y.K .ne) (tBM Y.K "list" (rCntB Y.K) (tVar 1) (tCons (tC (.bl true)) tNil)) (tC (.int 1))))) (tRet (tC (.str oth))) tNext)
            (tSeq (tAsg (tLst fun σ H Q => Q (words.map V.str) H) (gName 2))
              (tRet (tOp (rIxL Y.K) (tVar 2) (tBM Y.K "list" (rIndex Y.K) (tVar 1) (tCons (tC (.bl true)) tNil)))))))) D [some (.ref a), none, none] H := by
  have dx_ : ∀ {H1 H2 : Hp}, (∀ p o, H1 p = some o → H2 p = some o) → dxAt dx H1 → dxAt dx H2 := fun {H1 H2} g h => h.imp id fun ⟨d, l, e1, e2⟩ => ⟨d, l, e1, g _ _ e2⟩
  refine ⟨rfl, hd, by show 4 ≤ _; rw [sizeLine_eq]; omega, fun p1 hp1 => ?_⟩
  have g1 : ∀ p o, H p = some o → upd H p1 (.lst ([decide (c = 0), decide (c = 1), decide (c = 2), decide (c = 3)].map V.bl)) p = some o := fun p o e => Ev.grow hp1 p o e
  refine ⟨.ref p1, rfl, rfl, dx_ g1 hd, by show 4 ≤ _; rw [sizeLine_eq]; omega, fun p2 hp2 => ?_⟩
  have g2 := fun p o e => Ev.grow (o := HO.lst ([decide (c = 4), decide (c = 5), decide (c = 6), decide (c = 7)].map V.bl)) hp2 p o e
  have h1 : upd (upd H p1 (.lst ([decide (c = 0), decide (c = 1), decide (c = 2), decide (c = 3)].map V.bl))) p2 (.lst ([decide (c = 4), decide (c = 5), decide (c = 6), decide (c = 7)].map V.bl)) p1 = some (.lst ([decide (c = 0), decide (c = 1), decide (c = 2), decide (c = 3)].map V.bl)) := g2 _ _ upd_same
  refine ⟨fun _ => False, .list ([decide (c = 0), decide (c = 1), decide (c = 2), decide (c = 3)].map PyData.bool), .list ([decide (c = 4), decide (c = 5), decide (c = 6), decide (c = 7)].map PyData.bool), _, true, fun p e => e.elim,
    ⟨p1, _, rfl, h1, .cons (.bl _) (.cons (.bl _) (.cons (.bl _) (.cons (.bl _) .nil)))⟩, ⟨p2, _, rfl, upd_same, .cons (.bl _) (.cons (.bl _) (.cons (.bl _) (.cons (.bl _) .nil)))⟩, rfl, ?_⟩
  rintro v H' ⟨g3, p3, rfl, hp3, _, vs, h3, rl⟩
  have ev := RepL.bools (ns := [decide (c = 0), decide (c = 1), decide (c = 2), decide (c = 3), decide (c = 4), decide (c = 5), decide (c = 6), decide (c = 7)]) rl rfl
  subst ev
  have gA : ∀ p o, H p = some o → H' p = some o := fun p o e => g3 p o (g2 p o (g1 p o e))
  have n3 : H p3 = none := by
    cases e : H p3 with
    | none => rfl
    | some o =>
      have z := g2 p3 o (g1 p3 o e)
      rw [hp3] at z
      cases z
  refine ⟨.ref p3, rfl, .inl ⟨rfl, _, .of h3⟩, rfl, dx_ gA hd, p3, _, _, rfl, rfl, h3, by show 8 < _; rw [sizeLine_eq]; omega, ?_⟩
  have g4 : ∀ p o, H p = some o → upd H' p3 (.lst ([decide (c = 0), decide (c = 1), decide (c = 2), decide (c = 3), decide (c = 4), decide (c = 5), decide (c = 6), decide (c = 7), decide (c = 8)].map V.bl)) p = some o := fun p o e => by
    have np : p ≠ p3 := fun z => by rw [z, n3] at e; cases e
    rw [upd_ne np]
    exact gA p o e
  have key : ∀ (H4 : Hp) (bs : List Bool), (∀ p o, H p = some o → H4 p = some o) → H4 p3 = some (.lst (bs.map V.bl)) → bs.count true = 1 → bs[c]? = some true → (∀ m b, m < c → bs[m]? = some b → b = false) →
      tSeq (tIfS (tOr (tNot fun σ H Q => σ[0]? = some (some (.ref a)) ∧ dxAt dx H ∧ ∃ k, TruV Y.K (.bl true) H k ∧ Q k H) (tTest (tOp (rCp Y.K .ne) (tBM Y.K "list" (rCntB Y.K) (tVar 1) (tCons (tC (.bl true)) tNil)) (tC (.int 1))))) (tRet (tC (.str oth))) tNext)
            (tSeq (tAsg (tLst fun σ H Q => Q (words.map V.str) H) (gName 2))
              (tRet (tOp (rIxL Y.K) (tVar 2) (tBM Y.K "list" (rIndex Y.K) (tVar 1) (tCons (tC (.bl true)) tNil))))) D [some (.ref a), some (.ref p3), none] H4 := by
    intro H4 bs g4 h4 c1 c2 c3
    refine ⟨rfl, dx_ g4 hd, true, rfl, ?_⟩
    refine ⟨.ref p3, rfl, .inl ⟨rfl, _, .of h4⟩, p3, bs, rfl, rfl, .of h4, fun _ => False, .int 1, .int 1, false, fun p e => e.elim, by rw [c1]; rfl, rfl, by decide +kernel, false, rfl, ?_⟩
    refine ⟨by rw [List.length_map, hw, sizeLine_eq]; omega, fun p5 hp5 => ?_⟩
    have g5 := fun p o e => Ev.grow (o := HO.lst (words.map V.str)) hp5 p o e
    refine ⟨.ref p5, rfl, .ref p3, rfl, .inl ⟨rfl, _, .of (g5 _ _ h4)⟩, p3, bs.map V.bl, .bl true, c, .bl true, rfl, rfl, .of (g5 _ _ h4), rfl, ?_, by rw [List.getElem?_map, c2]; rfl, rfl, fun m z' hm e => ?_, p5, words.map V.str, (c : Int), .str z, rfl, rfl, .of upd_same, ?_, q _ fun p o e => g5 _ _ (g4 _ _ e)⟩
    · rw [List.all_map, List.all_eq_true]
      intro b _
      rfl
    · rw [List.getElem?_map] at e
      cases eb : bs[m]? with
      | none => rw [eb] at e; cases e
      | some b =>
        rw [eb] at e
        cases e
        cases c3 m b hm eb
        rfl
    · exact L2.atI_nat (by rw [List.getElem?_map, ez]; rfl)
  have hc : c < 9 := by
    have := (List.getElem?_eq_some_iff.mp ez).1
    omega
  refine key _ [decide (c = 0), decide (c = 1), decide (c = 2), decide (c = 3), decide (c = 4), decide (c = 5), decide (c = 6), decide (c = 7), decide (c = 8)] g4 upd_same ?_ ?_ ?_
  all_goals
    have h9 : c = 0 ∨ c = 1 ∨ c = 2 ∨ c = 3 ∨ c = 4 ∨ c = 5 ∨ c = 6 ∨ c = 7 ∨ c = 8 := by omega
    clear ez hd q g4 key h3 h1 g2 g1 gA rl g3 hp2 hp3 dx_ hp1 n3
    rcases h9 with rfl | rfl | rfl | rfl | rfl | rfl | rfl | rfl | rfl
  all_goals first
    | rfl
    | (intro m b hm e
       have h9 : m = 0 ∨ m = 1 ∨ m = 2 ∨ m = 3 ∨ m = 4 ∨ m = 5 ∨ m = 6 ∨ m = 7 := by omega
       rcases h9 with rfl | rfl | rfl | rfl | rfl | rfl | rfl | rfl <;> first | (cases e; rfl) | omega)

/-- its body -/
theorem kind_body {cdv : Value} {A : Around} {outer : List Env} {s0 : Shared} {H : Hp} {Q : VK} {E : XK} {p : Addr × Obj} {c : Nat} {C : Addr} {dx : Option Addr} {z : Str} (hc : chkKind ⟨scope, scope⟩ N names words body = true) (S : FnScope N ps scope) (blt : ∀ x ∈ bltN, mg x = none) (hv : mg sVE = none)
    (hcls : ∀ j y, names[j]? = some y → ∃ Cj, mg y = some (.ref Cj) ∧ nmOk y = true ∧ PySem.W.kitOne K (.ref C) (.ref Cj) = some (decide (c = j))) (hk : kxB K C = true) (hl : names.length = 9) (hw : words.length = 9) (ez : words[c]? = some z) (hz : Zc (.ref C) dx p.2) (hf : ∃ vs, p.2.data = .fields vs) (hd : dxAt dx H)
    (hu : (A.deeper (envOfC qual scope s0.heap.objs.size f cdv)).units + 65 < cLine) (q : ∀ H', (∀ p o, H p = some o → H' p = some o) → Q (.str z) H') :
    ∃ t, PSs (L2H.cxH (L2N.CX P w) P w K mg base N qual scope f cdv A outer s0 H E p) body t ∧ t { nx := fun _ H' => Q .non H', rt := Q } (L2.start N [V.ref p.1]) H := by
  unfold chkKind at hc
  split at hc
  · rename_i n m w1 m1 p1 l1 p2 p3 m2 p4 m3 p5 l2 p6 p7 p8 m4 p9 ap a1 l9 c1 p10 ve p11 m5 p12 cn a2 i1 p13 c2 i2 p14 p15 p16 oth i4 p17 p18 p19 w2 p20 ws p21 p22 w3 p23 m6 p24 ix a3 i5 p25 c3 p26 p27
    simp only [Bool.and_eq_true, decide_eq_true_eq, Bool.not_eq_true', beq_iff_eq] at hc
    obtain ⟨⟨⟨⟨⟨⟨⟨⟨rfl, rfl⟩, rfl⟩, rfl⟩, rfl⟩, rfl⟩, rfl⟩, rfl⟩, ⟨⟨⟨⟨⟨rfl, rfl⟩, rfl⟩, k1⟩, k2⟩, k3⟩, ⟨⟨⟨⟨⟨⟨⟨⟨v1, v2⟩, v3⟩, u1⟩, u2⟩, u3⟩, n1⟩, n2⟩, n3⟩, ⟨⟨⟨⟨t1, t2⟩, t3⟩, t4⟩, t5⟩, t6⟩ := hc
    match names, hl with
    | [b0, b1, b2, b3, b4, b5, b6, b7, b8], _ =>
    have nd := S.nd
    have ixc : IsCx (L2H.cxH (L2N.CX P w) P w K mg base [n, m6, w3] qual scope f cdv A outer s0 H E p) ⟨scope, scope⟩ n p.1 C p.2 dx := ⟨rfl, blt, rfl, isLoc_vis (Y := L2H.cxH (L2N.CX P w) P w K mg base [n, m6, w3] qual scope f cdv A outer s0 H E p) rfl v1, n1, List.mem_cons_self, hz, hf, hk⟩
    have pm : ∀ q, PE (L2H.cxH (L2N.CX P w) P w K mg base [n, m6, w3] qual scope f cdv A outer s0 H E p) (.Name m6 q) (tVar 1) := fun q => pe_var rfl (isLoc_vis (Y := L2H.cxH (L2N.CX P w) P w K mg base [n, m6, w3] qual scope f cdv A outer s0 H E p) rfl v2) (nmOk_1 n2).1 (nmOk_1 n2).2
    have pw : ∀ q, PE (L2H.cxH (L2N.CX P w) P w K mg base [n, m6, w3] qual scope f cdv A outer s0 H E p) (.Name w3 q) (tVar 2) := fun q => pe_var rfl (isLoc_vis (Y := L2H.cxH (L2N.CX P w) P w K mg base [n, m6, w3] qual scope f cdv A outer s0 H E p) rfl v3) (nmOk_1 n3).1 (nmOk_1 n3).2
    obtain ⟨lm1, lm2⟩ := isLoc_loc (Y := L2H.cxH (L2N.CX P w) P w K mg base [n, m6, w3] qual scope f cdv A outer s0 H E p) rfl v2
    obtain ⟨lw1, lw2⟩ := isLoc_loc (Y := L2H.cxH (L2N.CX P w) P w K mg base [n, m6, w3] qual scope f cdv A outer s0 H E p) rfl v3
    obtain ⟨C8, e8, e9, e10⟩ := hcls 8 b8 rfl
    have i1 := pa_isX ixc (fun j => decide (c = j)) [b0, b1, b2, b3] l1 0 t2 fun j y e => by
      rw [Nat.zero_add]
      refine hcls j y ?_
      have hj : j < 4 := (List.getElem?_eq_some_iff.mp e).1
      have : j = 0 ∨ j = 1 ∨ j = 2 ∨ j = 3 := by omega
      rcases this with rfl | rfl | rfl | rfl <;> exact e
    have i2 := pa_isX ixc (fun j => decide (c = j)) [b4, b5, b6, b7] l2 4 t3 fun j y e => by
      refine hcls (4 + j) y ?_
      have hj : j < 4 := (List.getElem?_eq_some_iff.mp e).1
      have : j = 0 ∨ j = 1 ∨ j = 2 ∨ j = 3 := by omega
      rcases this with rfl | rfl | rfl | rfl <;> exact e
    have i3 := pe_isX ixc t4 e10 (v := .ref C8) (fun u ru => ru) fun p g => pe_glob g e8 rfl (nmOk_1 e9).1
    have i4 := pe_isX ixc t5 (kx_of (x := 0) (ox := p.2) (od := none) hk).2 (v := .ty "ValueError") (fun u ru => ru) fun p g => pe_bltn g hv PyProof.Rows.Boot.«ValueError» rfl (by decide +kernel) (by decide +kernel)
    have vei : ∃ fn as kw pp, ve = .Call fn as kw pp := by
      unfold isIs at t5
      split at t5
      · exact ⟨_, _, _, _, rfl⟩
      · cases t5
    obtain ⟨x1, x2, x3, x4, rfl⟩ := vei
    refine ⟨_, pss_cons (ps_set (i := 1) nd rfl lm1 (pe_lst i1) rfl (.inr lm2)) (pss_cons (ps_set (i := 1) nd rfl lm1 (pe_op (op2_ok .add) (pm _) (pe_lst i2)) rfl (.inr lm2))
      (pss_cons (ps_expr (pe_bm F.plainAttrs_list F.slot_list_append F.type_list_append mt_append (pm _) (pa_1 i3 t1) rfl (by rw [star_all (show noStar [l9] = true by simp [noStar, t1])]; rfl) (by rw [k1]; exact beq_self_eq_true _) (star_cons t1) rfl) rfl)
        (pss_cons (ps_if (pw_or (pt_not (pt_truth i4 fun _ => rfl)) (pw_or1 (pt_cmpR (cp_ok hu .ne) (pe_bm F.plainAttrs_list F.slot_list_count F.type_list_count (mt_cntB hu) (pm _) (pa_1 pe_bl rfl) rfl rfl (by rw [k2]; exact beq_self_eq_true _) rfl rfl) pe_int rfl))).pt (pss_one (ps_ret pe_str)) pss_nil)
          (pss_cons (ps_set (i := 2) nd rfl lw1 (pe_lst (pa_strs words ws t6)) rfl (.inr lw2))
            (pss_one (ps_ret (pe_ix ix_list (pw _) (pe_bm F.plainAttrs_list F.slot_list_index F.type_list_index mt_index (pm _) (pa_1 pe_bl rfl) rfl rfl (by rw [k3]; exact beq_self_eq_true _) rfl rfl) (plainIx_of rfl)))))))), ?_⟩
    exact kind_run (Y := L2H.cxH (L2N.CX P w) P w K mg base [n, m6, w3] qual scope f cdv A outer s0 H E p) hw ez hd q
  · cases hc
end
end Ev
/-! Defs called where an error is handled: what they promise; classes of errors with fields. -/
namespace Ev
open PySem PySem.Spec PyProof.Rows L2
section
variable {P : Program} {w : World} {K : PySem.W.Frag} {mg : Str → Option Value} {base : Heap} {k : Nat} {x qual : Str} {params : Arguments} {body : List Stmt} {scope : Scope} {f : Addr} {fd : FuncData} {N ps names words : List Str} {cl : ClsT}
theorem fnk_of (F : FunD K x qual params body scope [] [] f fd) (S : FnScope N ps scope) (hc : chkKind ⟨scope, scope⟩ N names words body = true) (blt : ∀ x ∈ bltN, mg x = none) (hv : mg sVE = none)
    (hcls : ∀ c C nm, cl c = some (C, nm) → kxB K C = true ∧ ∀ j y, names[j]? = some y → ∃ Cj, mg y = some (.ref Cj) ∧ nmOk y = true ∧ PySem.W.kitOne K (.ref C) (.ref Cj) = some (decide (c = j))) (hl : names.length = 9) (hw : words.length = 9) :
    FnK P w K mg base (L2N.CX P w) (k + 1) f fd ps cl words := by
  intro A outer s H args Q E p c C nm dx z room hot hpin e0 hb h1 hz hcl hdx ez q
  obtain ⟨oc, od, dV, kV, doc, pm, an, cdv, ct, osl, rfl, lk, hcd, _, _⟩ := F.ex
  have kin : K.In s.heap := e0.mod.kin.keeps fun b o y => (e0.bs b o y).1
  have lim : s.heap.NoLimit := e0.mod.nolimit.keeps fun b o y => (e0.bs b o y).1
  have kinds : ∀ y ∈ ps.zip [Value.ref p.1], scope.names.lookup y.1 = some .local ∨ (scope.names.lookup y.1 = some .cell ∧ ((cellsFrom (s.heap.objs.size + 1) scope.names []).lookup y.1).isSome = true) := fun y hy => by
    obtain ⟨m, u⟩ := y
    rcases S.par m (List.of_mem_zip hy).1 with g | g
    · exact .inl g
    · exact .inr ⟨g, PySem.W.cellsFrom_some _ _ _ (.inl g)⟩
  refine codeAny_call_function room.depth (kin _ _ lk) rfl S.co S.gen rfl (PySem.W.codeRec_of kin hcd) (hb _ _ _ _ ?_)
  refine wpAny_newFunctionEnv_cells S.kind kinds fun env he s1 y => ?_
  subst he
  refine ⟨lim.keeps y.toInCall.keep, codeAny_func ?_⟩
  have room2 := room.deeper (envOfC qual scope s.heap.objs.size f cdv)
  obtain ⟨hot1, vs, hot2, hot3⟩ := id hot
  obtain ⟨kx, hcj⟩ := hcls c C nm hcl
  obtain ⟨t, ht, hq⟩ := kind_body (P := P) (w := w) (base := base) (cdv := cdv) (f := f) (qual := qual) (E := E) (Q := Q) (outer := outer) (A := A) (s0 := s) (H := H) hc S blt hv hcj kx hl hw ez hz ⟨vs, hot2⟩ hdx (by have := room2.un; omega) q
  have I : Inv (L2H.cxH (L2N.CX P w) P w K mg base N qual scope f cdv A outer s H E p) [] (L2.start N [V.ref p.1]) H s1 := L2H.inv_startH (us := [Value.ref p.1]) S hpin e0 (by rw [h1]; rfl) (.cons rfl .nil) y
  refine wpAny_mono (ht.run [] s1 (L2.start N [V.ref p.1]) H _ I hq) (fun fl s' hs => ?_) fun e s' hs => hs
  have fin : ∀ {σ' : Sg} {H' : Hp} {v : V} {u : Value}, Inv (L2H.cxH (L2N.CX P w) P w K mg base N qual scope f cdv A outer s H E p) [] σ' H' s' → RelV v u → Q v H' → L2.CE outer P w H s Q u s' :=
    fun {σ' H' v u} J rv g => ⟨v, H', J.os, J.bare, J.base, J.hok, rv, g⟩
  cases fl with
  | ret u =>
    obtain ⟨v, σ', H', J, rv, g⟩ := hs
    exact fin J rv g
  | next =>
    obtain ⟨σ', H', J, g⟩ := hs
    exact fin (v := V.non) (u := Value.none) J rfl g
  | brk =>
    obtain ⟨_, _, _, g⟩ := hs
    exact False.elim g
  | cont =>
    obtain ⟨_, _, _, g⟩ := hs
    exact False.elim g
def sInt : Str := "int"
def sBool : Str := "bool"
/-- isinstance(x, int) and not isinstance(x, bool) -/
def chkWhole (s : Sc) (N : List Str) (body : List Stmt) : Bool := match N, body with
  | [n], [.Return (some (.BoolOp .And [.Call (.Name f1 _) [.Name x1 _, .Name t1 _] [] _, .UnaryOp .Not (.Call (.Name f2 _) [.Name x2 _, .Name t2 _] [] _) _] _)) _] =>
    decide (f1 = sIsi) && decide (f2 = sIsi) && decide (x1 = n) && decide (x2 = n) && decide (t1 = sInt) && decide (t2 = sBool) && (isGl s sIsi && isGl s sInt && isGl s sBool && isLoc s n && nmOk n)
  | _, _ => false
theorem fnh_whole (F : FunD K x qual params body scope [] [] f fd) (S : FnScope N ps scope) (hc : chkWhole ⟨scope, scope⟩ N body = true) (blt : ∀ x ∈ bltN, mg x = none) (h1 : ps.length = 1) : L2H.FnH P w K mg base (L2N.CX P w) (k + 1) f fd ps spW := by
  obtain ⟨oc, od, dV, kV, doc, pm, an, cdv, ct, osl, rfl, lk, hcd, _, _⟩ := F.ex
  refine L2H.fn_ofH lk hcd S (fun vs H Q E ⟨i, e, _⟩ => by rw [e, h1]; rfl) fun A outer s H vs Q E p hot hr ⟨i, e, q⟩ => ?_
  subst e
  unfold chkWhole at hc
  split at hc
  · rename_i n f1 p1 x1 p2 t1 p3 p4 f2 p5 x2 p6 t2 p7 p8 p9 p10 p11
    simp only [Bool.and_eq_true, decide_eq_true_eq] at hc
    obtain ⟨⟨⟨⟨⟨⟨rfl, rfl⟩, rfl⟩, rfl⟩, rfl⟩, rfl⟩, ⟨⟨⟨g1, g2⟩, g3⟩, v1⟩, n1⟩ := hc
    have pn : ∀ q, PE (L2H.cxH (L2N.CX P w) P w K mg base [x2] qual scope f cdv A outer s H E p) (.Name x2 q) (tVar 0) := fun q => pe_var rfl (isLoc_vis (Y := L2H.cxH (L2N.CX P w) P w K mg base [x2] qual scope f cdv A outer s H E p) rfl v1) (nmOk_1 n1).1 (nmOk_1 n1).2
    have is_ : ∀ (t : Ty) (q1 q2 q3 q4 : Pos), isGl ⟨scope, scope⟩ (tyN t) = true → PE (L2H.cxH (L2N.CX P w) P w K mg base [x2] qual scope f cdv A outer s H E p) (.Call (.Name sIsi q1) [.Name x2 q2, .Name (tyN t) q3] [] q4) (tCB (rIsiD t) (tCons (tVar 0) (tCons (tC (.ty (tyS t))) tNil))) := fun t q1 q2 q3 q4 g =>
      pe_callB (isi_ok t) (gl_of (s := ⟨scope, scope⟩) rfl g1) (blt _ (by simp [bltN])) PyProof.Rows.boot_isinstance (pa_cons (pn _) (pa_1 (pe_bltn (gl_of (s := ⟨scope, scope⟩) rfl g) (blt _ (tyN_mem t)) (tyN_boot t) rfl (tyN_ne t).1 (tyN_ne t).2) rfl) (star_cons rfl)) (he := star_cons rfl)
    refine ⟨_, pss_one (ps_ret (pe_and (is_ .int _ _ _ _ g2) (pe_one (pe_not (is_ .bool _ _ _ _ g3))))), ?_⟩
    exact ⟨_, rfl, fun _ => False, _, .int i, rfl, rfl, true, rfl, _, rfl, fun _ => False, _, .int i, rfl, rfl, false, rfl, q⟩
  · cases hc
/-! ### __init__ that stores its parameters -/
def sInit : Str := "__init__"
def chkInit (s : Sc) (N nm : List Str) (body : List Stmt) : Bool := match N, nm, body with
  | [n, a], [f], [.Assign [.Attribute (.Name n1 _) f1 _] (.Name a1 _) _] => decide (n1 = n) && decide (f1 = f) && decide (a1 = a) && isLoc s n && isLoc s a && nmOk n && nmOk a
  | [n, a, b], [f, g], [.Assign [.Attribute (.Name n1 _) f1 _] (.Name a1 _) _, .Assign [.Attribute (.Name n2 _) g1 _] (.Name b1 _) _] =>
    decide (n1 = n) && decide (f1 = f) && decide (a1 = a) && isLoc s n && isLoc s a && nmOk n && nmOk a && (decide (n2 = n) && decide (g1 = g) && decide (b1 = b) && isLoc s b && nmOk b && decide (f ≠ g))
  | _, _, _ => false
theorem fn_init {C : Addr} {nm : List Str} {CX : CXT} (F : FunD K x qual params body scope [] [] f fd) (S : FnScope N ps scope) (hc : chkInit ⟨scope, scope⟩ N nm body = true) (hp : ps.length = nm.length + 1) (T : OexC K C) (hno : ∀ y ∈ nm, PySem.W.findIn K (.ref C) y = some none) : FnOk P w K mg base CX (k + 1) f fd ps (spI C nm) := by
  refine F.ok S (fun vs H Q E ⟨a, ys, e, l, _⟩ => by rw [e, hp, List.length_cons, l]) fun cdv A outer s H vs Q E hr ⟨a, ys, e, l, ha, q⟩ => ?_
  subst e
  unfold chkInit at hc
  split at hc
  · rename_i n y g n1 p1 g1 p2 y1 p3 p4 _x
    simp only [Bool.and_eq_true, decide_eq_true_eq] at hc
    obtain ⟨⟨⟨⟨⟨⟨rfl, rfl⟩, rfl⟩, v1⟩, v2⟩, m1⟩, m2⟩ := hc
    match ys, l with
    | [v], _ =>
    refine ⟨_, pss_one (ps_ost (pe_var (i := 0) rfl (isLoc_vis (Y := cxOf CX P w K mg base [n1, y1] qual scope f cdv A outer s H E) rfl v1) (nmOk_1 m1).1 (nmOk_1 m1).2) (pe_var (i := 1) rfl (isLoc_vis (Y := cxOf CX P w K mg base [n1, y1] qual scope f cdv A outer s H E) rfl v2) (nmOk_1 m2).1 (nmOk_1 m2).2) rfl), ?_⟩
    exact ⟨_, rfl, _, rfl, a, C, rfl, T, hno _ (by simp), .inl ⟨ha, fun d hd da => q d _ hd da fun z => rfl⟩⟩
  · rename_i n y b g g' n1 p1 g1 p2 y1 p3 p4 n2 p5 g2 p6 b1 p7 p8 _x
    simp only [Bool.and_eq_true, decide_eq_true_eq] at hc
    obtain ⟨⟨⟨⟨⟨⟨⟨rfl, rfl⟩, rfl⟩, v1⟩, v2⟩, m1⟩, m2⟩, ⟨⟨⟨⟨rfl, rfl⟩, rfl⟩, v3⟩, m3⟩, ne⟩ := hc
    match ys, l with
    | [v, u], _ =>
    refine ⟨_, pss_cons (ps_ost (pe_var (i := 0) rfl (isLoc_vis (Y := cxOf CX P w K mg base [n2, y1, b1] qual scope f cdv A outer s H E) rfl v1) (nmOk_1 m1).1 (nmOk_1 m1).2) (pe_var (i := 1) rfl (isLoc_vis (Y := cxOf CX P w K mg base [n2, y1, b1] qual scope f cdv A outer s H E) rfl v2) (nmOk_1 m2).1 (nmOk_1 m2).2) rfl)
      (pss_one (ps_ost (pe_var (i := 0) rfl (isLoc_vis (Y := cxOf CX P w K mg base [n2, y1, b1] qual scope f cdv A outer s H E) rfl v1) (nmOk_1 m1).1 (nmOk_1 m1).2) (pe_var (i := 2) rfl (isLoc_vis (Y := cxOf CX P w K mg base [n2, y1, b1] qual scope f cdv A outer s H E) rfl v3) (nmOk_1 m3).1 (nmOk_1 m3).2) rfl)), ?_⟩
    refine ⟨_, rfl, _, rfl, a, C, rfl, T, hno _ (by simp), .inl ⟨ha, fun d hd da => ⟨_, rfl, _, rfl, a, C, rfl, T, hno _ (by simp), .inr ⟨d, _, upd_same, by rw [upd_ne da, upd_same], by show 1 ≤ 900; omega, ?_⟩⟩⟩⟩
    have e : upd (upd (upd H d (exd d [(g1, v)])) a (exo a C (some d))) d (exd d [(g2, u), (g1, v)]) = upd (upd H d (exd d [(g2, u), (g1, v)])) a (exo a C (some d)) := by
      funext t
      by_cases td : t = d
      · subst td
        rw [upd_same, upd_ne da, upd_same]
      · by_cases ta : t = a
        · subst ta
          rw [upd_ne td, upd_same, upd_same]
        · rw [upd_ne td, upd_ne ta, upd_ne td, upd_ne ta, upd_ne td]
    show Q .non (upd (upd (upd H d (exd d [(g1, v)])) a (exo a C (some d))) d (exd d [(g2, u), (g1, v)]))
    rw [e]
    refine q d _ hd da fun z => ?_
    show List.lookup z [(g2, u), (g1, v)] = List.lookup z [(g1, v), (g2, u)]
    by_cases z1 : z = g1
    · subst z1
      have : (z == g2) = false := beq_eq_false_iff_ne.mpr ne
      simp [List.lookup, this]
    · have : (z == g1) = false := beq_eq_false_iff_ne.mpr z1
      by_cases z2 : z = g2
      · subst z2
        simp [List.lookup, this]
      · have e2 : (z == g2) = false := beq_eq_false_iff_ne.mpr z2
        simp [List.lookup, this, e2]
  · cases hc
end
end Ev
/-! What is known of a module's classes of errors. -/
namespace Ev
open PySem PySem.Spec PyProof.Rows L2
structure ExF (exn : Exn) (cl : ClsT) (P : Program) (w : World) (K : PySem.W.Frag) (mg : Str → Option Value) (base : Heap) : Prop where
  cls : ∀ c x nm, exAt exn c = some (x, nm) → ∃ C, mg x = some (.ref C) ∧ cl c = some (C, nm) ∧ PySem.W.keepIn K (.ref C) = true ∧ PySem.W.subIn K (.ref C) (.type "BaseException") = some true ∧ PySem.W.typeIn K (.ref C) = some (.type "type") ∧
    ((nm = [] ∧ PySem.W.excIn K C PySem.HandSPX.veTail "ValueError.__new__" = true) ∨ (nm ≠ [] ∧ OexC K C ∧ ∃ (fI : Addr) (fd : FuncData) (ps : List Str), PySem.W.findIn K (.ref C) "__init__" = some (some (.ref fI)) ∧ PySem.W.typeIn K (.ref fI) = some (.type "function") ∧ Binds K fd ps [] ∧ FnOk P w K mg base (L2N.CX P w) 1 fI fd ps (spI C nm)))
  web : exn.isEmpty = false → ∃ CW, mg sWeb = some (.ref CW) ∧ ∀ c C nm, cl c = some (C, nm) → PySem.W.exmOne K (.ref C) (.ref CW) = some true
  fld : ∀ c C nm, cl c = some (C, nm) → nm ≠ [] → XfC K C ∧ ∀ x ∈ nm, PySem.W.findIn K (.ref C) x = some none
  nod : ∀ c C nm, cl c = some (C, nm) → nm.Nodup
structure HotF (hot : Hot) (names : List Str) (cl : ClsT) (P : Program) (w : World) (K : PySem.W.Frag) (mg : Str → Option Value) (base : Heap) (k : Nat) : Prop where
  kin : ∀ f tbl, (f, tbl) ∈ hot.kin → ∃ (x : Str) (j : Nat) (fa : Addr) (fd : FuncData) (ps : List Str), names[f]? = some x ∧ j ≤ k ∧ mg x = some (.ref fa) ∧ PySem.W.keepIn K (.ref fa) = true ∧ Binds K fd ps [] ∧ ps.length = 1 ∧ FnK P w K mg base (L2N.CX P w) j fa fd ps cl tbl
  who : ∀ f, f ∈ hot.who → ∃ (x : Str) (j : Nat) (fa : Addr) (fd : FuncData) (ps : List Str), names[f]? = some x ∧ j ≤ k ∧ mg x = some (.ref fa) ∧ PySem.W.keepIn K (.ref fa) = true ∧ Binds K fd ps [] ∧ L2H.FnH P w K mg base (L2N.CX P w) j fa fd ps spW
section
variable {exn : Exn} {hot : Hot} {names : List Str} {cl : ClsT} {P : Program} {w : World} {K : PySem.W.Frag} {mg : Str → Option Value} {base : Heap} {k : Nat}
theorem HotF.nil : HotF ⟨[], []⟩ names cl P w K mg base k := ⟨fun f t h => (by cases h), fun f h => (by cases h)⟩
theorem app_get {l : List Str} {f : Nat} {x y : Str} (h : l[f]? = some x) : (l ++ [y])[f]? = some x := by
  rw [List.getElem?_append_left (List.getElem?_eq_some_iff.mp h).1]
  exact h
theorem HotF.step (H : HotF hot names cl P w K mg base k) (y : Str) : HotF hot (names ++ [y]) cl P w K mg base (k + 1) :=
  ⟨fun f t h => let ⟨x, j, fa, fd, ps, a, b, r⟩ := H.kin f t h; ⟨x, j, fa, fd, ps, app_get a, Nat.le_succ_of_le b, r⟩, fun f h => let ⟨x, j, fa, fd, ps, a, b, r⟩ := H.who f h; ⟨x, j, fa, fd, ps, app_get a, Nat.le_succ_of_le b, r⟩⟩
theorem last_get {l : List Str} {y : Str} : (l ++ [y])[l.length]? = some y := by simp
theorem HotF.addK (H : HotF hot names cl P w K mg base k) {y : Str} {tbl : List Str} {fa : Addr} {fd : FuncData} {ps : List Str} (m : mg y = some (.ref fa)) (kp : PySem.W.keepIn K (.ref fa) = true) (b : Binds K fd ps []) (l : ps.length = 1) (h : FnK P w K mg base (L2N.CX P w) (k + 1) fa fd ps cl tbl) :
    HotF ⟨hot.kin ++ [(names.length, tbl)], hot.who⟩ (names ++ [y]) cl P w K mg base (k + 1) :=
  ⟨fun f t q => by
    rcases List.mem_append.mp q with q | q
    · exact (H.step y).kin f t q
    · cases List.mem_singleton.mp q
      exact ⟨y, k + 1, fa, fd, ps, last_get, Nat.le_refl _, m, kp, b, l, h⟩, (H.step y).who⟩
theorem HotF.addW (H : HotF hot names cl P w K mg base k) {y : Str} {fa : Addr} {fd : FuncData} {ps : List Str} (m : mg y = some (.ref fa)) (kp : PySem.W.keepIn K (.ref fa) = true) (b : Binds K fd ps []) (h : L2H.FnH P w K mg base (L2N.CX P w) (k + 1) fa fd ps spW) :
    HotF ⟨hot.kin, hot.who ++ [names.length]⟩ (names ++ [y]) cl P w K mg base (k + 1) :=
  ⟨(H.step y).kin, fun f q => by
    rcases List.mem_append.mp q with q | q
    · exact (H.step y).who f q
    · cases List.mem_singleton.mp q
      exact ⟨y, k + 1, fa, fd, ps, last_get, Nat.le_refl _, m, kp, b, h⟩⟩
theorem ExF.nil : ExF [] (fun _ => none) P w K mg base := ⟨fun c x nm h => (by cases h), fun h => (by cases h), fun c C nm h => (by cases h), fun c C nm h => (by cases h)⟩
end
end Ev
/-! For loops; every statement keeps what it does. -/
namespace Ev
open PySem PySem.Spec PyProof.Rows L2
section
variable {G : Cg} {cl : ClsT} {W : WX} {φ : Phi} {s : Sc} {X : Cx}
def PostIF (K : PySem.W.Frag) (cl : ClsT) (W : WX) (A : Addr → Prop) (σ : Sg) (r : Rho) (H : Hp) (Rr : L2.It → Hp → Prop) : R (List PyData) → Prop
  | .ok xs r' => ∀ J H', Stp σ r r' H H' → Rl K A σ H' r' → Wk K xs none J A σ r' H' → Rr J H'
  | .exc c fs r' => PostX K cl W A σ r H c fs r'
  | .stuck => False
def tIFv (K : PySem.W.Frag) (cl : ClsT) (W : WX) (ev : Rho → R (List PyData)) : TI := fun σ H Rr => ∃ A r, Rl K A σ H r ∧ PostIF K cl W A σ r H Rr (ev r)
theorem sf_seq {tg l : Expr} {e : E} (ha : Snd X cl W l (evP φ e)) : PI X tg l (tIFv X.K cl W (evItF φ (.seq e))) := by
  refine PI.imp' (pi_seq (PE.imp' ha.1 te_dof)) ?_
  rintro σ H Rr ⟨A, r, R, h⟩
  refine ⟨A, r, R, ?_⟩
  have h : PostIF X.K cl W A σ r H Rr ((dof (evP φ e).1 r).bind fun x r1 => Ev.R.opt (itemsD x) r1) := h
  generalize dof (evP φ e).1 r = ra at h ⊢
  cases ra with
  | stuck => exact h
  | exc c fs r' => exact h
  | ok x r1 =>
    intro v H1 s1 R1 q1
    have h : PostIF X.K cl W A σ r H Rr (Ev.R.opt (itemsD x) r1) := h
    cases q1 with
    | lst na hp rl => exact ⟨_, rfl, .inl ⟨⟨_, .of hp⟩, h _ H1 s1 R1 (wk_list hp (fun z => na (.inr z)) rl)⟩⟩
    | tup na hp rl => exact ⟨_, rfl, .inr ⟨⟨_, .of hp⟩, h _ H1 s1 R1 (wk_tup hp (fun z => na (.inr z)) rl)⟩⟩
    | _ => exact h.elim
theorem sf_enum (ok : XOk G cl W φ s X) {tg : Expr} {e : E} {q p : Pos} {l : Expr} (h1 : isGl s sEnum = true) (ht : isTupE tg = true) (hs : isStar l = false) (ha : Snd X cl W l (evP φ e)) :
    PI X tg (.Call (.Name sEnum q) [l] [] p) (tIFv X.K cl W (evItF φ (.enum e))) := by
  cases tg <;> try (cases ht; done)
  refine PI.imp' (pi_enumE (ok.gl h1) (ok.blt _ (by simp [bltN, sEnum])) (pa_1 (PE.imp' ha.1 te_dof) hs) (star_cons hs)) ?_
  rintro σ H Rr ⟨A, r, R, h⟩
  refine ⟨A, r, R, ?_⟩
  have h : PostIF X.K cl W A σ r H Rr ((dof (evP φ e).1 r).bind fun x r1 => Ev.R.opt ((itemsL x).map (enumL 0)) r1) := h
  generalize dof (evP φ e).1 r = ra at h ⊢
  cases ra with
  | stuck => exact h
  | exc c fs r' => exact h
  | ok x r1 =>
    intro v H1 s1 R1 q1
    have h : PostIF X.K cl W A σ r H Rr (Ev.R.opt ((itemsL x).map (enumL 0)) r1) := h
    cases q1 with
    | lst na hp rl => exact ⟨_, rfl, .inl ⟨_, .of hp, h _ H1 s1 R1 (wk_enum (wk_list hp (fun z => na (.inr z)) rl))⟩⟩
    | tup na hp rl => exact ⟨_, rfl, .inr ⟨_, .of hp, h _ H1 s1 R1 (wk_enumT (wk_tup hp (fun z => na (.inr z)) rl))⟩⟩
    | _ => exact h.elim
theorem sf_range (ok : XOk G cl W φ s X) {tg : Expr} {es : Es} {q p : Pos} {ls : List Expr} (h1 : isGl s sRange = true) (h2 : ls.length ≤ 2) (hc : chkEs G es s ls = true) (ha : PA X ls (tAv X.K cl W (evAs φ es))) :
    PI X tg (.Call (.Name sRange q) ls [] p) (tIFv X.K cl W (evItF φ (.range es))) := by
  refine PI.imp' (si_range ok h1 h2 hc ha) ?_
  rintro σ H Rr ⟨A, r, R, h⟩
  have h : PostIF X.K cl W A σ r H Rr ((evAs φ es r).bind fun as r1 => (rangeV as r1).bind fun q r2 => .ok q.1 r2) := h
  -- what is walked is kept from by no more than before
  refine ⟨A, r, R, ?_⟩
  show PostI X.K cl W A σ r H Rr ((evAs φ es r).bind fun as r1 => rangeV as r1)
  generalize evAs φ es r = ra at h ⊢
  cases ra with
  | stuck => exact h
  | exc c fs r' => exact h
  | ok as r1 =>
    have h : PostIF X.K cl W A σ r H Rr ((rangeV as r1).bind fun q r2 => .ok q.1 r2) := h
    show PostI X.K cl W A σ r H Rr (rangeV as r1)
    unfold rangeV at h ⊢
    cases e : (datAV as).bind rangeD with
    | none => rw [e] at h; exact h.elim
    | some xs =>
      rw [e] at h
      intro J A' H' hA hA' s1 R1 w
      have w : Wk X.K xs none J A' σ r1 H' := w
      exact h J H' s1 (R1.mono hA) fun A2 σ2 r2 H2 sq hA2 R2 hs hσ n => w A2 σ2 r2 H2 sq (fun p z => (hA2 p z).imp (hA p) id) R2 hs hσ n
theorem sound_ItF (ok : XOk G cl W φ s X) {it : It} {tg i : Expr} (h : chkIt G it s tg i = true) : PI X tg i (tIFv X.K cl W (evItF φ it)) := by
  cases it with
  | seq e => exact sf_seq (sound_E e ok h)
  | range es =>
    unfold chkIt at h
    split at h
    · simp only [Bool.and_eq_true, decide_eq_true_eq] at h
      obtain ⟨⟨⟨rfl, h1⟩, h2⟩, h3⟩ := h
      exact sf_range ok h1 h2 h3 (sound_Es es ok h3).1
    · cases h
  | enum e =>
    unfold chkIt at h
    split at h
    · simp only [Bool.and_eq_true, decide_eq_true_eq, Bool.not_eq_true'] at h
      obtain ⟨⟨⟨⟨rfl, h1⟩, h2⟩, h3⟩, h4⟩ := h
      exact sf_enum ok h1 h2 h3 (sound_E e ok h4)
    · cases h
theorem ss_for (ok : XOk G cl W φ s X) {tg : Tg} {t i : Expr} {b : List Stmt} {pos : Pos} {it : Rho → R (List PyData)} {eb : Rho → SR} (ht : chkTg G s tg t = true) (hi : PI X t i (tIFv X.K cl W it)) (hs : isSetE i = false) (hb : PSs X b (tSv X.K cl W eb)) :
    PS X (.For t i b [] pos) (tSv X.K cl W fun r => stR (it r) fun xs r1 => forL tg eb xs r1) := by
  refine PS.imp' (ps_for ok.own ok.calm hi (pg_tg ok ht).1 hb (fold_of hs)) ?_
  rintro D σ H ⟨A, r, R, h⟩
  refine ⟨A, r, R, ?_⟩
  dsimp only at h
  generalize it r = ra at h ⊢
  cases ra with
  | stuck => exact h
  | exc c fs r' => exact h.ofX
  | ok xs r1 =>
    intro J H1 s1 R1 w
    have h : PostS X.K cl W A σ r1 H1 D (forL tg eb xs r1) := PostS.back s1.q (fun _ z => z) h
    refine ⟨fun n m σ' H' => m = xs.length - n ∧ n ≤ xs.length ∧ ∃ r', Stq σ r1 H1 σ' r' H' ∧ Rl X.K A σ' H' r' ∧ PostS X.K cl W A σ' r' H' D (forL tg eb (xs.drop n) r'), ⟨xs.length, by simp, Nat.zero_le _, r1, .refl, R1, h⟩, ?_⟩
    rintro n m σ' H' ⟨rfl, hn, r', sq, R', pf⟩
    have go := w A σ' r' H' sq (fun _ z => .inl z) R' rfl (fun _ _ z => by cases z) n
    by_cases hlt : n < xs.length
    · right
      have ed : xs.drop n = xs[n] :: xs.drop (n + 1) := List.drop_eq_getElem_cons hlt
      rw [ed] at pf
      unfold forL at pf
      split at pf
      · rename_i rs es
        obtain ⟨g1, g2⟩ := go.1 xs[n] (List.getElem?_eq_getElem hlt)
        refine ⟨g1, fun σ2 H2 => n + 1 ≤ xs.length ∧ ∃ r2, Stq σ r1 H1 σ2 r2 H2 ∧ Rl X.K A σ2 H2 r2 ∧ PostS X.K cl W A σ2 r2 H2 D (forL tg eb (xs.drop (n + 1)) r2), fun σ2 H2 hN => ⟨xs.length - (n + 1), by omega, rfl, hN.1, hN.2⟩, fun xv H'' hy2 => ?_⟩
        obtain ⟨gr, rx⟩ := g2 xv H'' hy2
        have RL : Rl X.K A σ' H'' r' := R'.grow gr
        obtain ⟨σ1, k1, k2, k3, k4, k5, _⟩ := setT_ok RL rx es
        refine k1 _ ⟨A, rs, k2, ?_⟩
        have sg : Stq σ' r' H' σ1 rs H'' := (Stp.grow gr).q.trans k3
        have pf := PostS.back sg (fun _ z => z) pf
        cases eb' : eb rs with
        | stuck => rw [eb'] at pf; exact pf
        | exc c fs r2 => rw [eb'] at pf; exact pf
        | ret d fr r2 => rw [eb'] at pf; exact pf
        | next r2 =>
          rw [eb'] at pf
          exact fun σ2 H2 s2 R2 => ⟨hlt, r2, (sq.trans sg).trans s2, R2, PostS.back s2 (fun _ z => z) pf⟩
      · exact pf.elim
    · left
      have e0 : xs.drop n = [] := List.drop_eq_nil_of_le (by omega)
      rw [e0] at pf
      exact ⟨go.2 (by omega), pf σ' H' .refl R'⟩
end
theorem st_expr {G : Cg} {cl : ClsT} {φ : Phi} {W : WX} {s : Sc} {X : Cx} {st : Stmt} {e : E} (ok : XOk G cl W φ s X) (h : chkS G s (.expr e) st = true)  : PS X st (tSv X.K cl W (evS φ (.expr e))) := by
    unfold chkS at h
    split at h
    · simp only [Bool.and_eq_true, Bool.not_eq_true'] at h
      exact ss_expr ok h.1 h.2
    · cases h
theorem st_asg {G : Cg} {cl : ClsT} {φ : Phi} {W : WX} {s : Sc} {X : Cx} {st : Stmt} {i : Nat} {e : E} (ok : XOk G cl W φ s X) (h : chkS G s (.asg i e) st = true)  : PS X st (tSv X.K cl W (evS φ (.asg i e))) := by
    unfold chkS at h
    split at h
    · simp only [Bool.and_eq_true] at h
      exact ss_asg ok h.1.1.1 h.1.1.2 h.1.2 h.2
    · cases h
theorem st_asgO {G : Cg} {cl : ClsT} {φ : Phi} {W : WX} {s : Sc} {X : Cx} {st : Stmt} {i : Nat} {e : E} (ok : XOk G cl W φ s X) (h : chkS G s (.asgO i e) st = true)  : PS X st (tSv X.K cl W (evS φ (.asgO i e))) := by
    unfold chkS at h
    split at h
    · simp only [Bool.and_eq_true] at h
      exact ss_asgO ok h.1.1.1 h.1.1.2 h.1.2 h.2
    · cases h
theorem st_asgT {G : Cg} {cl : ClsT} {φ : Phi} {W : WX} {s : Sc} {X : Cx} {st : Stmt} {i : Nat} (ok : XOk G cl W φ s X) (h : chkS G s (.asgT i) st = true)  : PS X st (tSv X.K cl W (evS φ (.asgT i))) := by
    unfold chkS at h
    split at h
    · simp only [Bool.and_eq_true] at h
      exact ss_asgT ok h.1 h.2
    · cases h
theorem st_unp {G : Cg} {cl : ClsT} {φ : Phi} {W : WX} {s : Sc} {X : Cx} {st : Stmt} {i : Nat} {j : Nat} {e : E} (ok : XOk G cl W φ s X) (h : chkS G s (.unp i j e) st = true)  : PS X st (tSv X.K cl W (evS φ (.unp i j e))) := by
    unfold chkS at h
    split at h
    · simp only [Bool.and_eq_true, Bool.not_eq_true'] at h
      exact ss_unp ok h.1.1.1.1 h.1.1.1.2 h.1.1.2 h.1.2 h.2
    · cases h
theorem st_par {G : Cg} {cl : ClsT} {φ : Phi} {W : WX} {s : Sc} {X : Cx} {st : Stmt} {i : Nat} {j : Nat} {a : E} {b : E} (ok : XOk G cl W φ s X) (h : chkS G s (.par i j a b) st = true)  : PS X st (tSv X.K cl W (evS φ (.par i j a b))) := by
    unfold chkS at h
    split at h
    · simp only [Bool.and_eq_true, decide_eq_true_eq] at h
      exact ss_par ok h.1.1.1.1.1 h.1.1.1.1.2 h.1.1.1.2 h.1.1.2 h.1.2 h.2
    · cases h
theorem st_set {G : Cg} {cl : ClsT} {φ : Phi} {W : WX} {s : Sc} {X : Cx} {st : Stmt} {i : Nat} {k : E} {e : E} (ok : XOk G cl W φ s X) (h : chkS G s (.set i k e) st = true)  : PS X st (tSv X.K cl W (evS φ (.set i k e))) := by
    unfold chkS at h
    split at h
    · simp only [Bool.and_eq_true, Bool.not_eq_true'] at h
      exact ss_set ok h.1.1.1.1.1.1 h.1.1.1.1.1.2 h.1.1.1.1.2 h.1.1.1.2 h.1.1.2 h.1.2 h.2
    · cases h
theorem st_dset {G : Cg} {cl : ClsT} {φ : Phi} {W : WX} {s : Sc} {X : Cx} {st : Stmt} {i : Nat} {k : E} {e : E} (ok : XOk G cl W φ s X) (h : chkS G s (.dset i k e) st = true)  : PS X st (tSv X.K cl W (evS φ (.dset i k e))) := by
    unfold chkS at h
    split at h
    · simp only [Bool.and_eq_true, Bool.not_eq_true'] at h
      exact ss_dset ok h.1.1.1.1.1.1 h.1.1.1.1.1.2 h.1.1.1.1.2 h.1.1.1.2 h.1.1.2 h.1.2 h.2
    · cases h
theorem st_aug {G : Cg} {cl : ClsT} {φ : Phi} {W : WX} {s : Sc} {X : Cx} {st : Stmt} {i : Nat} {o : Op2} {e : E} (ok : XOk G cl W φ s X) (h : chkS G s (.aug i o e) st = true)  : PS X st (tSv X.K cl W (evS φ (.aug i o e))) := by
    unfold chkS at h
    split at h
    · simp only [Bool.and_eq_true, decide_eq_true_eq] at h
      obtain ⟨⟨⟨⟨h1, h2⟩, h3⟩, rfl⟩, h4⟩ := h
      exact ss_aug ok h1 h2 h3 h4
    · cases h
theorem st_iff {G : Cg} {cl : ClsT} {φ : Phi} {W : WX} {s : Sc} {X : Cx} {st : Stmt} {c : E} {t : Ss} {f : Ss} (ok : XOk G cl W φ s X) (h : chkS G s (.iff c t f) st = true) (ht : ∀ sts, chkSs G s t sts = true → PSs X sts (tSv X.K cl W (evSs φ t))) (hf : ∀ sts, chkSs G s f sts = true → PSs X sts (tSv X.K cl W (evSs φ f))) : PS X st (tSv X.K cl W (evS φ (.iff c t f))) := by
    unfold chkS at h
    split at h
    · simp only [Bool.and_eq_true] at h
      exact ss_iff (sound_E c ok h.1.1).2 (ht _ h.1.2) (hf _ h.2)
    · cases h
theorem st_for {G : Cg} {cl : ClsT} {φ : Phi} {W : WX} {s : Sc} {X : Cx} {st : Stmt} {tg : Tg} {it : It} {b : Ss} (ok : XOk G cl W φ s X) (h : chkS G s (.for_ tg it b) st = true) (hb : ∀ sts, chkSs G s b sts = true → PSs X sts (tSv X.K cl W (evSs φ b))) : PS X st (tSv X.K cl W (evS φ (.for_ tg it b))) := by
    unfold chkS at h
    split at h
    · simp only [Bool.and_eq_true, Bool.not_eq_true'] at h
      exact ss_for ok h.1.1.1 (sound_ItF ok h.1.1.2) h.1.2 (hb _ h.2)
    · cases h
theorem st_while {G : Cg} {cl : ClsT} {φ : Phi} {W : WX} {s : Sc} {X : Cx} {st : Stmt} {n : Nat} {c : E} {b : Ss} (ok : XOk G cl W φ s X) (h : chkS G s (.while_ n c b) st = true) (hb : ∀ sts, chkSs G s b sts = true → PSs X sts (tSv X.K cl W (evSs φ b))) : PS X st (tSv X.K cl W (evS φ (.while_ n c b))) := by
    unfold chkS at h
    split at h
    · simp only [Bool.and_eq_true] at h
      exact ss_while ok.own (sound_E c ok h.1).2 (hb _ h.2)
    · cases h
theorem st_ret {G : Cg} {cl : ClsT} {φ : Phi} {W : WX} {s : Sc} {X : Cx} {st : Stmt} {e : E} (ok : XOk G cl W φ s X) (h : chkS G s (.ret e) st = true)  : PS X st (tSv X.K cl W (evS φ (.ret e))) := by
    unfold chkS at h
    split at h
    · exact ss_ret ok h
    · split at h
      · exact ss_retN
      · cases h
    · cases h
theorem st_pass {G : Cg} {cl : ClsT} {φ : Phi} {W : WX} {s : Sc} {X : Cx} {st : Stmt}  (ok : XOk G cl W φ s X) (h : chkS G s (.pass) st = true)  : PS X st (tSv X.K cl W (evS φ (.pass))) := by
    unfold chkS at h
    split at h
    · exact ss_pass
    · exact ss_doc
    · cases h
theorem st_cons {G : Cg} {cl : ClsT} {φ : Phi} {W : WX} {s : Sc} {X : Cx} {sts : List Stmt} {x : S} {xs : Ss} (ok : XOk G cl W φ s X) (h : chkSs G s (.cons x xs) sts = true) (hx : ∀ st, chkS G s x st = true → PS X st (tSv X.K cl W (evS φ x))) (hxs : ∀ sts, chkSs G s xs sts = true → PSs X sts (tSv X.K cl W (evSs φ xs))) : PSs X sts (tSv X.K cl W (evSs φ (.cons x xs))) := by
    cases sts with
    | nil => cases h
    | cons a b =>
      have h : (chkS G s x a && chkSs G s xs b) = true := h
      rw [Bool.and_eq_true] at h
      refine PSs.imp' (pss_cons (hx _ h.1) (hxs _ h.2)) ?_
      rintro D σ H ⟨A, r, R, h⟩
      refine ⟨A, r, R, ?_⟩
      have h : PostS X.K cl W A σ r H D (match evS φ x r with
        | .next r1 => evSs φ xs r1
        | q => q) := h
      cases e : evS φ x r with
      | stuck => rw [e] at h; exact h
      | exc c fs r2 => rw [e] at h; exact h
      | ret d fr r2 => rw [e] at h; exact h
      | next r1 =>
        rw [e] at h
        exact fun σ' H' s' R' => ⟨A, r1, R', PostS.back s' (fun _ z => z) h⟩
mutual
theorem sound_S {G : Cg} {cl : ClsT} {φ : Phi} : (e : S) → ∀ {W : WX} {s : Sc} {X : Cx} {st : Stmt}, XOk G cl W φ s X → XEx G cl X → XHot G cl X → chkS G s e st = true → PS X st (tSv X.K cl W (evS φ e))
  | .expr e, W, s, X, st, ok, xx, xh, h => st_expr ok h
  | .asg i e, W, s, X, st, ok, xx, xh, h => st_asg ok h
  | .asgO i e, W, s, X, st, ok, xx, xh, h => st_asgO ok h
  | .asgT i, W, s, X, st, ok, xx, xh, h => st_asgT ok h
  | .unp i j e, W, s, X, st, ok, xx, xh, h => st_unp ok h
  | .par i j a b, W, s, X, st, ok, xx, xh, h => st_par ok h
  | .set i k e, W, s, X, st, ok, xx, xh, h => st_set ok h
  | .dset i k e, W, s, X, st, ok, xx, xh, h => st_dset ok h
  | .aug i o e, W, s, X, st, ok, xx, xh, h => st_aug ok h
  | .iff c t f, W, s, X, st, ok, xx, xh, h => st_iff ok h (fun _ z => sound_Ss t ok xx xh z) (fun _ z => sound_Ss f ok xx xh z)
  | .for_ tg it b, W, s, X, st, ok, xx, xh, h => st_for ok h (fun _ z => sound_Ss b ok xx xh z)
  | .while_ n c b, W, s, X, st, ok, xx, xh, h => st_while ok h (fun _ z => sound_Ss b ok xx xh z)
  | .ret e, W, s, X, st, ok, xx, xh, h => st_ret ok h
  | .pass, W, s, X, st, ok, xx, xh, h => st_pass ok h
  | .raise_ c es, W, s, X, st, ok, xx, xh, h => ss_raise ok xx h
  | .try_ b i hs, W, s, X, st, ok, xx, xh, h => by
    unfold chkS at h
    split at h
    · rw [Bool.and_eq_true] at h
      exact ss_try ok xx xh h.1 fun ok' xx' xh' => sound_Ss b ok' xx' xh' h.2
    · cases h
  | .never, W, s, X, st, ok, xx, xh, h => PS.imp' ps_never (by rintro D σ H ⟨A, r, R, h⟩; exact h)
theorem sound_Ss {G : Cg} {cl : ClsT} {φ : Phi} : (e : Ss) → ∀ {W : WX} {s : Sc} {X : Cx} {sts : List Stmt}, XOk G cl W φ s X → XEx G cl X → XHot G cl X → chkSs G s e sts = true → PSs X sts (tSv X.K cl W (evSs φ e))
  | .nil, W, s, X, sts, ok, xx, xh, h => by
    cases sts with
    | cons a b => cases h
    | nil =>
      refine PSs.imp' pss_nil ?_
      rintro D σ H ⟨A, r, R, h⟩
      exact h σ H .refl R
  | .cons x xs, W, s, X, sts, ok, xx, xh, h => st_cons ok h (fun _ z => sound_S x ok xx xh z) (fun _ z => sound_Ss xs ok xx xh z)
end
end Ev
/-! Defs keep what they compute. -/
namespace Ev
open PySem PySem.Spec PyProof.Rows L2

/-! ### what is handed back -/
theorem outsV_len : ∀ {vs : List SV} {r : Rho} {os : List SV}, outsV vs r = some os → os.length = vs.length := by
  intro vs
  induction vs with
  | nil => intro r os h; cases h; rfl
  | cons v vs ih =>
    intro r os h
    cases v with
    | own o m =>
      match r, h with
      | .cons (some (.own o' false)) r, h =>
        have h : (outsV vs r).map (.own o' false :: ·) = some os := h
        cases e : outsV vs r with
        | none => rw [e] at h; cases h
        | some w => rw [e] at h; cases h; rw [List.length_cons, List.length_cons, ih e]
      | [], h => cases h
      | .cons none r, h => cases h
      | .cons (some (.d _)) r, h => cases h
      | .cons (some (.ro _)) r, h => cases h
      | .cons (some (.own _ true)) r, h => cases h
    | d x =>
      cases r with
      | nil => cases h
      | cons a r =>
        have h : (outsV vs r).map (.d x :: ·) = some os := h
        cases e : outsV vs r with
        | none => rw [e] at h; cases h
        | some w => rw [e] at h; cases h; rw [List.length_cons, List.length_cons, ih e]
    | ro x =>
      cases r with
      | nil => cases h
      | cons a r =>
        have h : (outsV vs r).map (.ro x :: ·) = some os := h
        cases e : outsV vs r with
        | none => rw [e] at h; cases h
        | some w => rw [e] at h; cases h; rw [List.length_cons, List.length_cons, ih e]
theorem outsV_at : ∀ {vs : List SV} {r : Rho} {os : List SV} {j : Nat} {o : SV}, outsV vs r = some os → os[j]? = some o → (∃ a, o = .own a false ∧ r[j]? = some (some (.own a false)) ∧ ∃ b m, vs[j]? = some (.own b m)) ∨ (vs[j]? = some o ∧ ∀ a m, o ≠ .own a m) := by
  intro vs
  induction vs with
  | nil => intro r os j o h e; cases h; cases e
  | cons v vs ih =>
    intro r os j o h e
    cases v with
    | own b m =>
      match r, h with
      | .cons (some (.own o' false)) r, h =>
        have h : (outsV vs r).map (.own o' false :: ·) = some os := h
        cases e2 : outsV vs r with
        | none => rw [e2] at h; cases h
        | some w =>
          rw [e2] at h
          cases h
          cases j with
          | zero => cases e; exact .inl ⟨o', rfl, rfl, b, m, rfl⟩
          | succ j => exact ih e2 e
      | [], h => cases h
      | .cons none r, h => cases h
      | .cons (some (.d _)) r, h => cases h
      | .cons (some (.ro _)) r, h => cases h
      | .cons (some (.own _ true)) r, h => cases h
    | d x =>
      cases r with
      | nil => cases h
      | cons a r =>
        have h : (outsV vs r).map (.d x :: ·) = some os := h
        cases e2 : outsV vs r with
        | none => rw [e2] at h; cases h
        | some w =>
          rw [e2] at h
          cases h
          cases j with
          | zero => cases e; exact .inr ⟨rfl, fun a m z => by cases z⟩
          | succ j => exact ih e2 e
    | ro x =>
      cases r with
      | nil => cases h
      | cons a r =>
        have h : (outsV vs r).map (.ro x :: ·) = some os := h
        cases e2 : outsV vs r with
        | none => rw [e2] at h; cases h
        | some w =>
          rw [e2] at h
          cases h
          cases j with
          | zero => cases e; exact .inr ⟨rfl, fun a m z => by cases z⟩
          | succ j => exact ih e2 e
section
variable {K : PySem.W.Frag} {cl : ClsT} {A A' : Addr → Prop} {H H' : Hp} {vs : List V} {args os : List SV} {m : Nat} {σ' : Sg} {r' : Rho}
/-- more names, nothing in them -/
theorem Rl.more {σ : Sg} {r : Rho} (R : Rl K A σ H r) (m : Nat) : Rl K A (σ ++ List.replicate m none) H (r ++ List.replicate m none) ∧ (∀ p, Own (σ ++ List.replicate m none) (r ++ List.replicate m none) p → Own σ r p) := by
  have at_ : ∀ (i : Nat) (sv : SV), (r ++ List.replicate m none)[i]? = some (some sv) → r[i]? = some (some sv) ∧ (σ ++ List.replicate m none)[i]? = σ[i]? := fun i sv h => by
    by_cases hi : i < r.length
    · rw [List.getElem?_append_left hi] at h
      exact ⟨h, List.getElem?_append_left (by rw [R.len]; exact hi)⟩
    · rw [List.getElem?_append_right (by omega), List.getElem?_replicate] at h
      split at h <;> cases h
  have own : ∀ p, Own (σ ++ List.replicate m none) (r ++ List.replicate m none) p → Own σ r p := fun p ⟨i, o, mm, h1, h2⟩ => by
    obtain ⟨h3, h4⟩ := at_ i _ h1
    rw [h4] at h2
    exact ⟨i, o, mm, h3, h2⟩
  have sub : ∀ p, Av A (σ ++ List.replicate m none) (r ++ List.replicate m none) p → Av A σ r p := fun p z => z.imp id (own p)
  refine ⟨⟨by rw [List.length_append, List.length_append, R.len]; simp, fun i x h => ?_, fun i o mm h => ?_, fun i x h => ?_, fun i j o mm o' m' p h1 h2 h3 h4 => ?_, R.al⟩, own⟩
  · obtain ⟨h1, h2⟩ := at_ i _ h
    obtain ⟨v, h3, h4⟩ := R.d i x h1
    exact ⟨v, by rw [h2]; exact h3, h4.mono sub⟩
  · obtain ⟨h1, h2⟩ := at_ i _ h
    obtain ⟨v, h3, h4, h5⟩ := R.own i o mm h1
    exact ⟨v, by rw [h2]; exact h3, h4.mono sub, h5⟩
  · obtain ⟨h1, h2⟩ := at_ i _ h
    obtain ⟨v, h3, h4⟩ := R.ro i x h1
    exact ⟨v, by rw [h2]; exact h3, h4.mono sub⟩
  · obtain ⟨h5, h6⟩ := at_ i _ h1
    obtain ⟨h7, h8⟩ := at_ j _ h2
    rw [h6] at h3
    rw [h8] at h4
    exact R.inj i j o mm o' m' p h5 h7 h3 h4
/-- a def's end, seen by its parameters -/
theorem rl_outs (R : Rl K A (vs.map some) H (args.map some)) (nm : noMine args = true) (sq : Stq (vs.map some ++ List.replicate m none) (args.map some ++ List.replicate m none) H σ' r' H') (R' : Rl K A' σ' H' r') (eo : outsV args r' = some os) (hA : ∀ p, A' p → A p ∨ H p = none) :
    Stp (vs.map some) (args.map some) (os.map some) H H' ∧ Rl K A' (vs.map some) H' (os.map some) ∧ (∀ p, Own (vs.map some) (os.map some) p → Own σ' r' p) := by
  obtain ⟨R0, ow0⟩ := R.more m
  have lv : vs.length = args.length := by simpa using R.len
  have at_ : ∀ (j : Nat) (o : SV), os[j]? = some o → (∃ a, o = .own a false ∧ r'[j]? = some (some (.own a false)) ∧ σ'[j]? = (vs.map some)[j]? ∧ ∃ b, args[j]? = some (.own b false)) ∨ (args[j]? = some o ∧ ∀ a mm, o ≠ .own a mm) := fun j o h => by
    rcases outsV_at eo h with ⟨a, rfl, h1, b, mm, h2⟩ | h
    · have hm := noMine_at nm h2
      subst hm
      obtain ⟨_, h3⟩ := sq.lent j a h1
      have hj : j < vs.length := by
        rw [lv]
        exact (List.getElem?_eq_some_iff.mp h2).1
      rw [List.getElem?_append_left (by simpa using hj)] at h3
      exact .inl ⟨a, rfl, h1, h3, b, h2⟩
    · exact .inr h
  have own1 : ∀ p, Own (vs.map some) (os.map some) p → Own σ' r' p := fun p ⟨j, o, mm, h1, h2⟩ => by
    rcases at_ j _ (map_some_get.mp h1) with ⟨a, e, h3, h4, _⟩ | ⟨_, h3⟩
    · exact ⟨j, _, false, h3, by rw [h4]; exact h2⟩
    · exact absurd rfl (h3 o mm)
  have own2 : ∀ p, Own (vs.map some) (os.map some) p → Own (vs.map some) (args.map some) p := fun p ⟨j, o, mm, h1, h2⟩ => by
    rcases at_ j _ (map_some_get.mp h1) with ⟨a, e, _, _, b, h3⟩ | ⟨_, h3⟩
    · exact ⟨j, b, false, map_some_get.mpr h3, h2⟩
    · exact absurd rfl (h3 o mm)
  have keep : ∀ p o, H p = some o → ¬ Own (vs.map some) (args.map some) p → H' p = some o := fun p o e n => sq.keep p o e fun z => n (ow0 p z)
  have k1 : ∀ p o, H p = some o → ¬ Av A (vs.map some) (args.map some) p → H' p = some o := fun p o e n => keep p o e fun z => n (.inr z)
  have k2 : ∀ p, Av A' (vs.map some) (os.map some) p → Av A (vs.map some) (args.map some) p ∨ H p = none := fun p z => z.elim (fun z => (hA p z).imp .inl id) fun z => .inl (.inr (own2 p z))
  have sub : ∀ p, Av A' (vs.map some) (os.map some) p → Av A' σ' r' p := fun p z => z.imp id (own1 p)
  refine ⟨⟨keep, sq.live, fun j o mm h => ?_⟩, ⟨by rw [List.length_map, List.length_map, outsV_len eo, lv], fun j x h => ?_, fun j o mm h => ?_, fun j x h => ?_, fun i j o mm o' m' p h1 h2 h3 h4 => ?_, R'.al⟩, own1⟩
  · rcases at_ j _ (map_some_get.mp h) with ⟨a, e, _, _, b, h3⟩ | ⟨_, h3⟩
    · cases e
      exact ⟨b, map_some_get.mpr h3⟩
    · exact absurd rfl (h3 o mm)
  · rcases at_ j _ (map_some_get.mp h) with ⟨a, e, _⟩ | ⟨h3, _⟩
    · cases e
    · obtain ⟨v, h4, h5⟩ := R.d j x (map_some_get.mpr h3)
      exact ⟨v, h4, h5.step k1 k2⟩
  · rcases at_ j _ (map_some_get.mp h) with ⟨a, e, h3, h4, _⟩ | ⟨_, h3⟩
    · cases e
      obtain ⟨p, h5, h6, h7⟩ := R'.own j _ false h3
      exact ⟨p, by rw [← h4]; exact h5, h6.mono sub, fun z => by cases z⟩
    · exact absurd rfl (h3 o mm)
  · rcases at_ j _ (map_some_get.mp h) with ⟨a, e, _⟩ | ⟨h3, _⟩
    · cases e
    · obtain ⟨v, h4, h5⟩ := R.ro j x (map_some_get.mpr h3)
      exact ⟨v, h4, h5.step k1 k2⟩
  · rcases at_ i _ (map_some_get.mp h1) with ⟨_, _, _, _, b, e1⟩ | ⟨_, e1⟩
    · rcases at_ j _ (map_some_get.mp h2) with ⟨_, _, _, _, b', e2⟩ | ⟨_, e2⟩
      · exact R.inj i j _ _ _ _ p (map_some_get.mpr e1) (map_some_get.mpr e2) h3 h4
      · exact absurd rfl (e2 o' m')
    · exact absurd rfl (e1 o mm)
/-- the body's wish from the def's -/
theorem body_post {Q : VK} {E : XK} {n k : Nat} {b : Ss} {φ : Phi} (R : Rl K A (vs.map some) H (args.map some)) (nm : noMine args = true) (h : PostC K cl A (vs.map some) (args.map some) H Q E (fnV n k b φ args)) :
    vs.length = k ∧ ((vs.length = k) → tSv K cl (fun c d _ H => E c d H) (evSs φ b) { nx := fun _ H' => Q .non H', rt := Q } (vs.map some ++ List.replicate (n - vs.length) none) H) := by
  have lv : vs.length = args.length := by simpa using R.len
  unfold fnV at h
  split at h
  · rename_i hk
    refine ⟨by rw [lv]; exact hk, fun _ => ?_⟩
    have e0 : n - k = n - vs.length := by rw [lv, hk]
    rw [e0] at h
    refine ⟨A, args.map some ++ List.replicate (n - vs.length) none, (R.more _).1, ?_⟩
    have noM : ∀ p, ¬ Mine (vs.map some ++ List.replicate (n - vs.length) none) (args.map some ++ List.replicate (n - vs.length) none) p := fun p ⟨i, o, h1, h2⟩ => by
      by_cases hi : i < args.length
      · rw [List.getElem?_append_left (by simpa using hi)] at h1
        have := noMine_at nm (map_some_get.mp h1)
        cases this
      · rw [List.getElem?_append_right (by simpa using hi), List.getElem?_replicate] at h1
        split at h1 <;> cases h1
    generalize evSs φ b (args.map some ++ List.replicate (n - vs.length) none) = res at h ⊢
    cases res with
    | stuck => exact h
    | exc c fs r' =>
      intro C dx σ' H' sq R' x
      exact h C dx H' (fun p o e nn => sq.keep p o e fun z => nn ((R.more _).2 p z)) sq.live (x.mono fun p z => .inl z)
    | next r' =>
      dsimp only at h
      intro σ' H' sq R'
      cases eo : outsV args r' with
      | none => rw [eo] at h; exact h.elim
      | some os =>
        rw [eo] at h
        obtain ⟨st, R2, _⟩ := rl_outs R nm sq R' eo fun _ z => .inl z
        exact h .non H' ⟨st, R2, .non⟩
    | ret d fr r' =>
      dsimp only at h
      intro v σ' H' ok
      cases eo : outsV args r' with
      | none => rw [eo] at h; exact h.elim
      | some os =>
        rw [eo] at h
        obtain ⟨sq, ok⟩ := ok
        cases fr with
        | false =>
          obtain ⟨st, R2, ow⟩ := rl_outs R nm sq ok.1 eo fun _ z => .inl z
          exact h v H' ⟨st, R2, ok.2.mono fun p z => z.imp id (ow p)⟩
        | true =>
          obtain ⟨p, e, hp, no, R', ob⟩ := ok
          have hp : H p = none := hp.elim id fun z => absurd z (noM p)
          obtain ⟨st, R2, ow⟩ := rl_outs R nm sq R' eo fun q z => z.imp id fun z => by rw [z]; exact hp
          exact h v H' ⟨st, p, e, hp, fun z => no (ow p z), R2, ob.mono fun q z => z.imp id (ow q)⟩
  · exact h.elim
end

/-! ### what is known of the module -/
structure MOk (cl : ClsT) (names : List Str) (sems : List Sem) (con : List (Str × PyData)) (P : Program) (w : World) (K : PySem.W.Frag) (mg : Str → Option Value) (base : Heap) (k : Nat) : Prop where
  blt : ∀ x ∈ bltN, mg x = none
  fns : ∀ (i : Nat) (x : Str), names[i]? = some x → ∃ (g : Sem) (f : Addr) (fd : FuncData) (ps : List Str), sems[i]? = some g ∧ mg x = some (.ref f) ∧ PySem.W.keepIn K (.ref f) = true ∧ Binds K fd ps [] ∧ FnOk P w K mg base (L2N.CX P w) k f fd ps (spF K cl g)
  con : ∀ (x : Str) (d : PyData), hasCon con x d = true → ∃ (v : V) (u : Value), mg x = some u ∧ RelV v u ∧ RepC K v d
def phiL (l : List Sem) (i : Nat) : Sem := match l[i]? with
  | some g => g
  | none => fun _ => .stuck
theorem len_spF {K : PySem.W.Frag} {cl : ClsT} {n k : Nat} {b : Ss} {φ : Phi} {vs : List V} {H : Hp} {Q : VK} {E : XK} (h : spF K cl (fnV n k b φ) vs H Q E) : vs.length = k := by
  obtain ⟨A, args, R, nm, h⟩ := h
  exact (body_post R nm h).1
theorem fn_ev {cl : ClsT} {names : List Str} {sems : List Sem} {con : List (Str × PyData)} {exn : Exn} {hot : Hot} {P : Program} {w : World} {K : PySem.W.Frag} {mg : Str → Option Value} {base : Heap} {k : Nat} {x qual : Str} {params : Arguments} {body : List Stmt} {scope : Scope} {f : Addr} {fd : FuncData} {N ps : List Str} {ir : Ss}
    (M : MOk cl names sems con P w K mg base k) (EX : ExF exn cl P w K mg base) (HF : HotF hot names cl P w K mg base k) (k2 : 2 ≤ k) (F : FunD K x qual params body scope [] [] f fd) (S : FnScope N ps scope) (hc : chkSs ⟨N, names, exn, con, hot⟩ ⟨scope, scope⟩ ir body = true) : FnOk P w K mg base (L2N.CX P w) (k + 1) f fd ps (spF K cl (fnV N.length ps.length ir (phiL sems))) := by
  refine F.ok S (fun vs H Q E h => len_spF h) fun cdv A outer s H vs Q E hr h => ?_
  refine ⟨tSv K cl (fun c d _ H => E c d H) (evSs (phiL sems) ir), ?_, ?_⟩
  · refine sound_Ss ir (G := ⟨N, names, exn, con, hot⟩) (W := fun c d _ H => E c d H) (X := cxOf (L2N.CX P w) P w K mg base N qual scope f cdv A outer s H E) (s := ⟨scope, scope⟩) ⟨rfl, rfl, S.nd, rfl, S.kind, fun _ _ => rfl, ?_, passes_of rfl, L2N.takes_of rfl rfl rfl rfl, M.blt, fun i y e => ?_, M.con⟩ ⟨rfl, rfl, fun c x nm e => ?_⟩ ⟨EX.web, EX.fld, EX.nod, fun f tbl x q e => ?_, fun f x q e => ?_⟩ hc
    · have := hr.un
      show (A.deeper (envOfC qual scope s.heap.objs.size f cdv)).units + 65 < cLine
      omega
    · obtain ⟨g, f', fd', ps', h1, h2, h3, h4, h5⟩ := M.fns i y e
      refine ⟨k, f', fd', ps', h2, h3, h4, hr, ?_⟩
      have e2 : phiL sems i = g := by
        unfold phiL
        rw [h1]
      rw [e2]
      exact h5
    · obtain ⟨C, a1, a2, a3, a4, a5, a6⟩ := EX.cls c x nm e
      exact ⟨C, a1, a2, a3, a4, a5, a6.imp id fun ⟨b1, b2, fI, fd, ps, b3, b4, b5, b6⟩ => ⟨b1, b2, fI, 1, fd, ps, b3, b4, b5, hr.mono k2, b6⟩⟩
    · obtain ⟨x', j, fa, fd, ps, a1, a2, a3⟩ := HF.kin f tbl q
      have e : names[f]? = some x := e
      rw [a1] at e
      cases e
      exact ⟨j, fa, fd, ps, a3.1, a3.2.1, a3.2.2.1, a3.2.2.2.1, hr.mono a2, a3.2.2.2.2⟩
    · obtain ⟨x', j, fa, fd, ps, a1, a2, a3⟩ := HF.who f q
      have e : names[f]? = some x := e
      rw [a1] at e
      cases e
      exact ⟨j, fa, fd, ps, a3.1, a3.2.1, a3.2.2.1, hr.mono a2, a3.2.2.2⟩
  · obtain ⟨A0, args, R, nm, h⟩ := h
    obtain ⟨h1, h2⟩ := body_post R nm h
    exact h2 h1
theorem MOk.step {cl : ClsT} {names : List Str} {sems : List Sem} {con : List (Str × PyData)} {exn : Exn} {hot : Hot} {P : Program} {w : World} {K : PySem.W.Frag} {mg : Str → Option Value} {base : Heap} {k : Nat} {x qual : Str} {params : Arguments} {body : List Stmt} {scope : Scope} {f : Addr} {fd : FuncData} {N ps : List Str} {ir : Ss}
    (M : MOk cl names sems con P w K mg base k) (EX : ExF exn cl P w K mg base) (HF : HotF hot names cl P w K mg base k) (k2 : 2 ≤ k) (hl : names.length = sems.length) (F : FunD K x qual params body scope [] [] f fd) (S : FnScope N ps scope) (hb : Binds K fd ps []) (hg : mg x = some (.ref f)) (hc : chkSs ⟨N, names, exn, con, hot⟩ ⟨scope, scope⟩ ir body = true) :
    MOk cl (names ++ [x]) (sems ++ [fnV N.length ps.length ir (phiL sems)]) con P w K mg base (k + 1) := by
  refine ⟨M.blt, fun i y e => ?_, M.con⟩
  by_cases hi : i < names.length
  · rw [List.getElem?_append_left hi] at e
    obtain ⟨g, f', fd', ps', h1, h2, h3, h4, h5⟩ := M.fns i y e
    exact ⟨g, f', fd', ps', by rw [List.getElem?_append_left (by omega)]; exact h1, h2, h3, h4, h5.mono (Nat.le_succ k)⟩
  · rw [List.getElem?_append_right (by omega)] at e
    have e1 : i - names.length = 0 := by
      cases z : i - names.length with
      | zero => rfl
      | succ n => rw [z] at e; cases e
    rw [e1] at e
    cases e
    refine ⟨_, f, fd, ps, ?_, hg, F.kp, hb, fn_ev M EX HF k2 F S hc⟩
    rw [List.getElem?_append_right (by omega)]
    have e2 : i - sems.length = 0 := by omega
    rw [e2]
    rfl
/-- a def that is not told of here -/
theorem MOk.skip {cl : ClsT} {names : List Str} {sems : List Sem} {con : List (Str × PyData)} {P : Program} {w : World} {K : PySem.W.Frag} {mg : Str → Option Value} {base : Heap} {k : Nat} {x : Str} {f : Addr} {fd : FuncData} {ps : List Str}
    (M : MOk cl names sems con P w K mg base k) (hl : names.length = sems.length) (kp : PySem.W.keepIn K (.ref f) = true) (hb : Binds K fd ps []) (hg : mg x = some (.ref f)) : MOk cl (names ++ [x]) (sems ++ [fun _ => .stuck]) con P w K mg base (k + 1) := by
  refine ⟨M.blt, fun i y e => ?_, M.con⟩
  by_cases hi : i < names.length
  · rw [List.getElem?_append_left hi] at e
    obtain ⟨g, f', fd', ps', h1, h2, h3, h4, h5⟩ := M.fns i y e
    exact ⟨g, f', fd', ps', by rw [List.getElem?_append_left (by omega)]; exact h1, h2, h3, h4, h5.mono (Nat.le_succ k)⟩
  · rw [List.getElem?_append_right (by omega)] at e
    have e1 : i - names.length = 0 := by
      cases z : i - names.length with
      | zero => rfl
      | succ n => rw [z] at e; cases e
    rw [e1] at e
    cases e
    refine ⟨fun _ => .stuck, f, fd, ps, ?_, hg, kp, hb, ⟨fun vs H Q E h => ?_, fun A outer s H args us vs Q E _ _ _ _ h => ?_⟩⟩
    · rw [List.getElem?_append_right (by omega)]
      have e2 : i - sems.length = 0 := by omega
      rw [e2]
      rfl
    · obtain ⟨_, _, _, _, z⟩ := h
      exact z.elim
    · obtain ⟨_, _, _, _, z⟩ := h
      exact z.elim
end Ev
/-! A law's end. -/
namespace Ev
open PySem PySem.Spec PyProof.Rows L2
theorem walk_ofEw {l : PySem.W.OpenLaw} {n k : Nat} {q : Program} {loose : List Str} {XP : (Str → Option Value) → Heap → Prop} {YP : World → Heap → Prop} {d : DefRec} {CX : World → CXT} {x : Str}
    (hn : l.most = some n) (hn2 : n ≤ sizeLine) (hdf : d.params.defaults = []) (hr : Room k callerA)
    (F : ∀ (w : World) (mg : Str → Option Value) (fa : Addr) (h : Heap), YP w h → h.Ns mainGlobals mg → mg d.name = some (.ref fa) →
      ∃ (K : PySem.W.Frag) (fd : FuncData) (sp : Sp), K.In h ∧ (∀ (s : Shared) (u : Value), BindsTo s fd ⟨[u], []⟩ [(x, u)]) ∧
        (∀ (H : Hp) (a : Addr) (ns : List Int), ns.length ≤ n → Only H → SqL K H a (ns.map V.int) → sp [.ref a] H (fun v _ => v = .bl true) fun _ _ _ => False) ∧
        ∀ base : Heap, K.In base → base.Ns mainGlobals mg → FnOk l.prog w K mg base (CX w) k fa fd [x] sp)
    (hCX : ∀ (w : World) (H : Hp) (s : Shared) (e : Value) (s' : Shared), CX w [] H s (fun _ _ _ => False) e s' → False) :
    PySem.W.WalkO q loose XP YP l.row.toRowW d [] (fun f vs => PySem.call f vs) := by
  refine Att.attach_call hn hdf fun w s₀ s₁ mg mb fa o pm cd doc a vs ns G Y ho hd hcd hmg hobj hints hlen hg => ?_
  obtain ⟨K, fd, sp, KX, hb, hsp, hF⟩ := F w mg fa _ Y G.T.g hmg
  exact law_call KX G.T.g G.T.b G.T.builtins G.T.nolimit hg hobj hints (Nat.le_trans hlen hn2) hr hF hb (fun H hO hS => hsp H a ns hlen hO hS) fun H e s' => hCX w H s₁ e s'
/-- the law's own promise -/
theorem law_sp {K : PySem.W.Frag} {cl : ClsT} {g : Sem} {n : Nat} (h : ∀ ns : List Int, ns.length ≤ n → ∃ os, g [.ro (.list (ns.map PyData.int))] = .ret (.bool true) false os) (H : Hp) (a : Addr) (ns : List Int) (hl : ns.length ≤ n) (hS : SqL K H a (ns.map V.int)) :
    spF K cl g [.ref a] H (fun v _ => v = .bl true) fun _ _ _ => False := by
  obtain ⟨os, e⟩ := h ns hl
  refine ⟨fun _ => False, [.ro (.list (ns.map PyData.int))], ⟨rfl, fun i x z => ?_, fun i o m z => ?_, fun i x z => ?_, fun i j o m o' m' p z => ?_, fun p z => z.elim⟩, rfl, ?_⟩
  · match i, z with
    | 0, z => cases z
    | i + 1, z => cases z
  · match i, z with
    | 0, z => cases z
    | i + 1, z => cases z
  · match i, z with
    | 0, z =>
      cases z
      refine ⟨.ref a, rfl, ns, a, rfl, rfl, ?_⟩
      rcases hS with hS | hS
      · refine .inl ⟨hS, ?_⟩
        rintro (z | ⟨i, o, m, z, _⟩)
        · exact z
        · match i, z with
          | 0, z => cases z
          | i + 1, z => cases z
      · exact .inr fun H' => .inr hS
    | i + 1, z => cases z
  · match i, z with
    | 0, z => cases z
    | i + 1, z => cases z
  · rw [e]
    intro v H' ok
    have q : Rep (Av (fun _ => False) ([V.ref a].map some) (os.map some)) H' v (.bool true) := ok.2.2
    cases q
    rfl
theorem cx_no {P : Program} (w : World) (H : Hp) (s : Shared) (e : Value) (s' : Shared) (h : L2N.CX P w [] H s (fun _ _ _ => False) e s') : False := by
  obtain ⟨_, _, _, _, _, _, _, _, _, _, _, _, z⟩ := h
  exact z
abbrev FnD (K : PySem.W.Frag) (x : Str) (st : Stmt) (f : Addr) (fd : FuncData) : Prop := FunD K x x (defArgs st) (defBody st) (defScope st) [] [] f fd
def dOf (x : Str) (st : Stmt) : He.DefD := ⟨(x, none), x, x, defArgs st, defBody st, defScope st, [], []⟩
def psOf (st : Stmt) : List Str := (defArgs st).args.map (·.arg)
/-- no class of errors is known -/
def noCls : ClsT := fun _ => none
end Ev
/-! A module's constants: whole numbers, texts, tuples of these. -/
namespace Ev
open PySem PySem.Spec PyProof.Rows L2
abbrev Tu := Str × List He.Dv
/-! ### classes of errors, as the head stands -/
def oexB (K : PySem.W.Frag) (C : Addr) : Bool := (match K.lookup C with
  | some ⟨.type t, _, .cls cd, sl⟩ => (match cd.mro, sl.toList with
    | .ref C' :: bm, [_, _, _, _, some (.builtin n), _] => decide (t = "type") && (decide (C' = C) && (decide (n = "ValueError.__new__") && (!cd.hasDel && (cd.hasDict && PySem.HandSPX.refsVE bm))))
    | _, _ => false)
  | _ => false) && decide (PySem.W.findIn K (.ref C) "__setattr__" = some (some (.builtin "object.__setattr__")))
theorem oex_of {K : PySem.W.Frag} {C : Addr} (h : oexB K C = true) (h1 : PySem.W.subIn K (.ref C) (.type "BaseException") = some true) (h2 : PySem.W.typeIn K (.ref C) = some (.type "type")) (h3 : PySem.W.keepIn K (.ref C) = true) : OexC K C := by
  unfold oexB at h
  rw [Bool.and_eq_true] at h
  obtain ⟨g1, g2⟩ := h
  refine ⟨?_, of_decide_eq_true g2, h1, h2, h3⟩
  split at g1
  · rename_i t dd cd sl ho
    split at g1
    · rename_i C' bm k0 k1 k2 k3 n k5 hm hs
      simp only [Bool.and_eq_true, decide_eq_true_eq, Bool.not_eq_true'] at g1
      obtain ⟨rfl, rfl, rfl, hdel, hdict, hb⟩ := g1
      obtain ⟨n1, b1, m1, s1, q1, d1, x1, y1, a1, c1, e1⟩ := cd
      dsimp only at hm hdel hdict
      subst hm hdel hdict
      have hsl : sl = #[k0, k1, k2, k3, some (.builtin "ValueError.__new__"), k5] := by
        obtain ⟨l⟩ := sl
        simp only at hs
        rw [hs]
      subst hsl
      exact ⟨n1, q1, s1, b1, bm, x1, y1, a1, c1, dd, k0, k1, k2, k3, k5, ho, hb⟩
    · cases g1
  · cases g1
def exB1 (K : PySem.W.Frag) (exn : Exn) (e : Nat × Str × List Str) : Bool :=
  decide (PySem.W.nsIn K mainGlobals e.2.1 = some (some (.ref (He.ga K e.2.1)))) && (nmOk e.2.1 && (PySem.W.keepIn K (.ref (He.ga K e.2.1)) && (decide (PySem.W.subIn K (.ref (He.ga K e.2.1)) (.type "BaseException") = some true) && (decide (PySem.W.typeIn K (.ref (He.ga K e.2.1)) = some (.type "type")) &&
  (decide (PySem.W.exmOne K (.ref (He.ga K e.2.1)) (.ref (He.ga K sWeb)) = some true) && (decide e.2.2.Nodup && (kxB K (He.ga K e.2.1) && (exn.all (fun d => decide (PySem.W.kitOne K (.ref (He.ga K e.2.1)) (.ref (He.ga K d.2.1)) = some (decide (e.1 = d.1)))) &&
  (match e.2.2 with
    | [] => PySem.W.excIn K (He.ga K e.2.1) PySem.HandSPX.veTail "ValueError.__new__"
    | n :: ns => oexB K (He.ga K e.2.1) && (xfB K (He.ga K e.2.1) && ((n :: ns).all (fun x => decide (PySem.W.findIn K (.ref (He.ga K e.2.1)) x = some none)) && (decide (PySem.W.findIn K (.ref (He.ga K e.2.1)) "__init__" = some (some (.ref (He.ma K (He.ga K e.2.1) "__init__")))) &&
      decide (PySem.W.typeIn K (.ref (He.ma K (He.ga K e.2.1) "__init__")) = some (.type "function"))))))))))))))
def exB (K : PySem.W.Frag) (exn : Exn) : Bool := decide (PySem.W.nsIn K mainGlobals sWeb = some (some (.ref (He.ga K sWeb)))) && (decide (PySem.W.nsIn K mainGlobals sVE = some none) && exn.all (exB1 K exn))
def obsTu (fa : List He.Fa) (fn : List He.DefD) (tu : List Tu) (exn : Exn) (K : PySem.W.Frag) : Bool × He.AlD := ((exn.isEmpty || exB K exn) && tu.all fun t => He.tupB K t.1 t.2, He.obsD fa fn K)
def valTu (fn : List He.DefD) : Bool × He.AlD := (true, He.valD fn)
def SaysTu (fa : List He.Fa) (fn : List He.DefD) (tu : List Tu) (exn : Exn) (K : PySem.W.Frag) : Prop := obsTu fa fn tu exn K = valTu fn
def obsTuG (n : Nat) (fa : List He.Fa) (fn : List He.DefD) (tu : List Tu) (exn : Exn) (g : Addr → Option Obj) : Bool × He.AlD := obsTu fa fn tu exn (He.frG g (He.asD g n))
def hookTu (n : Nat) (fa : List He.Fa) (fn : List He.DefD) (tu : List Tu) (exn : Exn) : PySem.W.Hook where
  α := Bool × He.AlD
  obs := fun s => obsTuG n fa fn tu exn s.heap.get?
  val := fun _ => valTu fn
  says := fun _ h => ∃ K : PySem.W.Frag, K.In h ∧ SaysTu fa fn tu exn K
  of := fun _ _ e => ⟨_, He.frG_in, e⟩
  keeps := fun _ _ _ ⟨K, hK, c⟩ k => ⟨K, PySem.W.Frag.In.keeps hK k, c⟩
theorem obsTuG_eq {n : Nat} {fa : List He.Fa} {fn : List He.DefD} {tu : List Tu} {exn : Exn} {g : Addr → Option Obj} {s : Shared} (h : ∀ a, g a = s.heap.get? a) : obsTuG n fa fn tu exn g = (hookTu n fa fn tu exn).obs s := by
  have e : g = s.heap.get? := funext h
  rw [e] <;> rfl
theorem SaysTu.d {fa : List He.Fa} {fn : List He.DefD} {tu : List Tu} {exn : Exn} {K : PySem.W.Frag} (c : SaysTu fa fn tu exn K) : He.SaysD fa fn K := congrArg (fun z : Bool × He.AlD => z.2) c
theorem SaysTu.tup {fa : List He.Fa} {fn : List He.DefD} {tu : List Tu} {exn : Exn} {K : PySem.W.Frag} (c : SaysTu fa fn tu exn K) (i : Nat) {t : Tu} (h : tu[i]? = some t) : He.tupB K t.1 t.2 = true := by
  have c1 : ((exn.isEmpty || exB K exn) && tu.all fun t => He.tupB K t.1 t.2) = true := congrArg (fun z : Bool × He.AlD => z.1) c
  rw [Bool.and_eq_true] at c1
  exact List.all_eq_true.mp c1.2 t (List.mem_of_getElem? h)
theorem SaysTu.exn {fa : List He.Fa} {fn : List He.DefD} {tu : List Tu} {exn : Exn} {K : PySem.W.Frag} (c : SaysTu fa fn tu exn K) (h : exn.isEmpty = false) : exB K exn = true := by
  have c1 : ((exn.isEmpty || exB K exn) && tu.all fun t => He.tupB K t.1 t.2) = true := congrArg (fun z : Bool × He.AlD => z.1) c
  rw [Bool.and_eq_true, h, Bool.false_or] at c1
  exact c1.1
def ConOk (K : PySem.W.Frag) (mg : Str → Option Value) (x : Str) (d : PyData) : Prop := ∃ (v : V) (u : Value), mg x = some u ∧ RelV v u ∧ RepC K v d
theorem con_int {K : PySem.W.Frag} {mg : Str → Option Value} {h : Heap} (X : K.In h) (G : h.Ns mainGlobals mg) {x : Str} {i : Int} (c : (He.Fa.int x i).ok K = true) : ConOk K mg x (.int i) := by
  obtain ⟨t, e⟩ := He.int_ok X G c
  exact ⟨.int i, _, e, ⟨t, rfl⟩, fun A H => .inl rfl⟩
/-- what such a tuple has, as data -/
def dvD : He.Dv → Option PyData
  | .non => some .none
  | .bl b => some (.bool b)
  | .int i => some (.int i)
  | .str x => some (.str x)
  | _ => none
theorem rep_dv {K : PySem.W.Frag} {A : Addr → Prop} {H : Hp} : ∀ {vs : List He.Dv} {xs : List PyData}, vs.map dvD = xs.map some → RepL A H (vs.map (He.Dv.v K)) xs
  | [], [], _ => .nil
  | [], _ :: _, e => by cases e
  | _ :: _, [], e => by cases e
  | v :: vs, x :: xs, e => by
    have e1 : dvD v = some x := by injection e
    have e2 : vs.map dvD = xs.map some := by injection e
    refine .cons ?_ (rep_dv e2)
    cases v <;> first | (cases e1; done) | skip
    · cases e1; exact .non
    · cases e1; exact .bl _
    · cases e1; exact .int _
    · cases e1; exact .str _
theorem con_tup {K : PySem.W.Frag} {mg : Str → Option Value} {h : Heap} (X : K.In h) (G : h.Ns mainGlobals mg) {x : Str} {vs : List He.Dv} {xs : List PyData} (c : (He.Fa.glo x).ok K = true) (t : He.tupB K x vs = true) (e : vs.map dvD = xs.map some) : ConOk K mg x (.tuple xs) :=
  ⟨.ref (He.ga K x), _, He.glo_ok X G c, rfl, fun A H => .inr ⟨_, _, rfl, He.tupB_ok t H, rep_dv e⟩⟩
theorem con_nil {K : PySem.W.Frag} {mg : Str → Option Value} : ∀ (x : Str) (d : PyData), hasCon [] x d = true → ConOk K mg x d := fun x d e => by cases e
theorem con_cons {K : PySem.W.Frag} {mg : Str → Option Value} {y : Str} {z : PyData} {r : List (Str × PyData)} (h : ConOk K mg y z) (t : ∀ (x : Str) (d : PyData), hasCon r x d = true → ConOk K mg x d) : ∀ (x : Str) (d : PyData), hasCon ((y, z) :: r) x d = true → ConOk K mg x d := fun x d e => by
  have e : ((decide (y = x) && sameD z d) || hasCon r x d) = true := e
  rw [Bool.or_eq_true, Bool.and_eq_true] at e
  rcases e with ⟨e1, e2⟩ | e
  · have e1 := of_decide_eq_true e1
    have e2 := sameD_eq z d e2
    subst e1 e2
    exact h
  · exact t x d e
def clsK (K : PySem.W.Frag) (exn : Exn) : ClsT := fun c => (exAt exn c).map fun p => (He.ga K p.1, p.2)
theorem exAt_mem : ∀ {l : Exn} {c : Nat} {p : Str × List Str}, exAt l c = some p → (c, p.1, p.2) ∈ l
  | [], c, p, h => by cases h
  | (d, q) :: l, c, p, h => by
    unfold exAt at h
    rw [List.lookup_cons] at h
    cases e : c == d with
    | true =>
      rw [e] at h
      cases h
      rw [beq_iff_eq.mp e]
      exact List.mem_cons_self
    | false =>
      rw [e] at h
      exact List.mem_cons_of_mem _ (exAt_mem (l := l) h)
theorem clsK_at {K : PySem.W.Frag} {exn : Exn} {c : Nat} {C : Addr} {nm : List Str} (h : clsK K exn c = some (C, nm)) : ∃ x, exAt exn c = some (x, nm) ∧ C = He.ga K x := by
  unfold clsK at h
  cases e : exAt exn c with
  | none => rw [e] at h; cases h
  | some p => rw [e] at h; cases h; exact ⟨p.1, rfl, rfl⟩
section
variable {K : PySem.W.Frag} {h : Heap} {mg : Str → Option Value} {exn : Exn}
structure Ex1 (K : PySem.W.Frag) (mg : Str → Option Value) (exn : Exn) (c : Nat) (x : Str) (nm : List Str) : Prop where
  glo : mg x = some (.ref (He.ga K x))
  nmk : nmOk x = true
  kp : PySem.W.keepIn K (.ref (He.ga K x)) = true
  su : PySem.W.subIn K (.ref (He.ga K x)) (.type "BaseException") = some true
  ty : PySem.W.typeIn K (.ref (He.ga K x)) = some (.type "type")
  web : PySem.W.exmOne K (.ref (He.ga K x)) (.ref (He.ga K sWeb)) = some true
  nod : nm.Nodup
  kx : kxB K (He.ga K x) = true
  kit : ∀ d ∈ exn, PySem.W.kitOne K (.ref (He.ga K x)) (.ref (He.ga K d.2.1)) = some (decide (c = d.1))
  mks : (nm = [] ∧ PySem.W.excIn K (He.ga K x) PySem.HandSPX.veTail "ValueError.__new__" = true) ∨ (nm ≠ [] ∧ oexB K (He.ga K x) = true ∧ xfB K (He.ga K x) = true ∧ (∀ y ∈ nm, PySem.W.findIn K (.ref (He.ga K x)) y = some none) ∧
    PySem.W.findIn K (.ref (He.ga K x)) "__init__" = some (some (.ref (He.ma K (He.ga K x) "__init__"))) ∧ PySem.W.typeIn K (.ref (He.ma K (He.ga K x) "__init__")) = some (.type "function"))
theorem ex1_of (X : K.In h) (G : h.Ns mainGlobals mg) (hb : exB K exn = true) {c : Nat} {x : Str} {nm : List Str} (hc : exAt exn c = some (x, nm)) : Ex1 K mg exn c x nm := by
  unfold exB at hb
  simp only [Bool.and_eq_true, decide_eq_true_eq] at hb
  have q := List.all_eq_true.mp hb.2.2 _ (exAt_mem hc)
  unfold exB1 at q
  simp only [Bool.and_eq_true, decide_eq_true_eq] at q
  obtain ⟨q1, q2, q3, q4, q5, q6, q7, q8, q9, q10⟩ := q
  refine ⟨PySem.W.mg_of X G q1, q2, q3, q4, q5, q6, q7, q8, fun d hd => of_decide_eq_true (List.all_eq_true.mp q9 d hd), ?_⟩
  cases nm with
  | nil => exact .inl ⟨rfl, q10⟩
  | cons n ns =>
    have q10 : (oexB K (He.ga K x) && (xfB K (He.ga K x) && ((n :: ns).all (fun y => decide (PySem.W.findIn K (.ref (He.ga K x)) y = some none)) && (decide (PySem.W.findIn K (.ref (He.ga K x)) "__init__" = some (some (.ref (He.ma K (He.ga K x) "__init__")))) &&
      decide (PySem.W.typeIn K (.ref (He.ma K (He.ga K x) "__init__")) = some (.type "function")))))) = true := q10
    simp only [Bool.and_eq_true, decide_eq_true_eq] at q10
    obtain ⟨r1, r2, r3, r4, r5⟩ := q10
    exact .inr ⟨by simp, r1, r2, fun y hy => of_decide_eq_true (List.all_eq_true.mp r3 y hy), r4, r5⟩
theorem ve_of (X : K.In h) (G : h.Ns mainGlobals mg) (hb : exB K exn = true) : mg sVE = none := by
  unfold exB at hb
  simp only [Bool.and_eq_true, decide_eq_true_eq] at hb
  exact PySem.W.mg_none_of X G hb.2.1
theorem exF_of {P : Program} {w : World} {base : Heap} (X : K.In h) (G : h.Ns mainGlobals mg) (hb : exB K exn = true)
    (hi : ∀ c x nm, exAt exn c = some (x, nm) → nm ≠ [] → OexC K (He.ga K x) → (∀ y ∈ nm, PySem.W.findIn K (.ref (He.ga K x)) y = some none) → ∃ (fd : FuncData) (ps : List Str), Binds K fd ps [] ∧ FnOk P w K mg base (L2N.CX P w) 1 (He.ma K (He.ga K x) "__init__") fd ps (spI (He.ga K x) nm)) : ExF exn (clsK K exn) P w K mg base := by
  refine ⟨fun c x nm hc => ?_, fun _ => ?_, fun c C nm hc nn => ?_, fun c C nm hc => ?_⟩
  · have e := ex1_of X G hb hc
    refine ⟨_, e.glo, by unfold clsK; rw [hc]; rfl, e.kp, e.su, e.ty, e.mks.imp id fun ⟨r0, r1, r2, r3, r4, r5⟩ => ?_⟩
    have T := oex_of r1 e.su e.ty e.kp
    obtain ⟨fd, ps, b, F⟩ := hi c x nm hc r0 T r3
    exact ⟨r0, T, _, fd, ps, r4, r5, b, F⟩
  · have hb2 := hb
    unfold exB at hb2
    simp only [Bool.and_eq_true, decide_eq_true_eq] at hb2
    refine ⟨_, PySem.W.mg_of X G hb2.1, fun c C nm hc => ?_⟩
    obtain ⟨x, e1, rfl⟩ := clsK_at hc
    exact (ex1_of X G hb e1).web
  · obtain ⟨x, e1, rfl⟩ := clsK_at hc
    rcases (ex1_of X G hb e1).mks with ⟨e, _⟩ | ⟨_, _, r2, r3, _⟩
    · exact absurd e nn
    · exact ⟨xfB_ok r2, r3⟩
  · obtain ⟨x, e1, rfl⟩ := clsK_at hc
    exact (ex1_of X G hb e1).nod
/-- what the def that tells an error's kind asks of the classes -/
theorem kin_of {names : List Str} (X : K.In h) (G : h.Ns mainGlobals mg) (hb : exB K exn = true) (hn : ∀ j y, names[j]? = some y → ∃ nm, exAt exn j = some (y, nm)) : ∀ c C nm, clsK K exn c = some (C, nm) → kxB K C = true ∧ ∀ j y, names[j]? = some y → ∃ Cj, mg y = some (.ref Cj) ∧ nmOk y = true ∧ PySem.W.kitOne K (.ref C) (.ref Cj) = some (decide (c = j)) := by
  intro c C nm hc
  obtain ⟨x, e1, rfl⟩ := clsK_at hc
  have q := ex1_of X G hb e1
  refine ⟨q.kx, fun j y hj => ?_⟩
  obtain ⟨nm', e2⟩ := hn j y hj
  have q2 := ex1_of X G hb e2
  exact ⟨_, q2.glo, q2.nmk, q.kit (j, y, nm') (exAt_mem e2)⟩
end
end Ev
/-! Plain facts that many laws want. -/
namespace Ev
open PySem
def dI (xs : List Int) : List PyData := xs.map PyData.int
theorem dI_nil : dI [] = [] := rfl
theorem dI_cons (x : Int) (xs : List Int) : dI (x :: xs) = .int x :: dI xs := rfl
theorem dI_len (xs : List Int) : (dI xs).length = xs.length := by simp [dI]
theorem dI_app (xs ys : List Int) : dI xs ++ dI ys = dI (xs ++ ys) := by simp [dI]
theorem dI_rev (xs : List Int) : (dI xs).reverse = dI xs.reverse := by simp [dI]
theorem dI_take (n : Nat) (xs : List Int) : (dI xs).take n = dI (xs.take n) := by simp [dI]
theorem dI_drop (n : Nat) (xs : List Int) : (dI xs).drop n = dI (xs.drop n) := by simp [dI]
theorem dI_get (xs : List Int) (k : Nat) : (dI xs)[k]? = (xs[k]?).map PyData.int := by simp [dI]
theorem dI_map (xs : List Int) (f : PyData → PyData) (g : Int → Int) (h : ∀ i, f (.int i) = .int (g i)) : (dI xs).map f = dI (xs.map g) := by
  simp [dI, List.map_map, Function.comp_def, h]
theorem mem_dI {xs : List Int} {x : PyData} (h : x ∈ dI xs) : ∃ i ∈ xs, x = .int i := by
  obtain ⟨i, h1, h2⟩ := List.mem_map.mp h
  exact ⟨i, h1, h2.symm⟩
theorem dI_isEmpty (xs : List Int) : (dI xs).isEmpty = xs.isEmpty := by cases xs <;> rfl
theorem intsD_map : ∀ xs : List Int, intsD (dI xs) = some xs
  | [] => rfl
  | x :: xs => by
    show (intsD (dI xs)).map (x :: ·) = _
    rw [intsD_map xs]
    rfl
theorem shaped_int (i : Int) : SeqAt.shaped (.int i) = true := by simp [SeqAt.shaped, PyData.canLay0, PyData.depth]
theorem canLayAll_ints : ∀ xs : List Int, PyData.canLayAll0 (dI xs) = true
  | [] => rfl
  | x :: xs => by
    show (PyData.canLay0 (.int x) && PyData.canLayAll0 (dI xs)) = true
    rw [canLayAll_ints xs]
    simp [PyData.canLay0]
theorem depthAll_ints : ∀ xs : List Int, PyData.depthAll (dI xs) ≤ 1
  | [] => by decide
  | x :: xs => by
    have h := depthAll_ints xs
    have e : PyData.depthAll (dI (x :: xs)) = max 0 (PyData.depthAll (dI xs)) := by rw [dI_cons]; rfl
    omega
theorem shaped_ints (xs : List Int) : SeqAt.shaped (.list (dI xs)) = true := by
  have h := depthAll_ints xs
  unfold SeqAt.shaped
  rw [show (PyData.list (dI xs)).canLay0 = true from canLayAll_ints xs, Bool.true_and]
  have e : (PyData.list (dI xs)).depth = PyData.depthAll (dI xs) + 1 := by simp only [PyData.depth]
  rw [e]
  exact decide_eq_true (by omega)
theorem eqv_int (a b : Int) : PyData.eqv (.int a) (.int b) = decide (a = b) := by
  show (a == b) = _
  exact Bool.beq_eq_decide_eq a b
theorem eqvAll_ints : ∀ xs ys : List Int, PyData.eqvAll (dI xs) (dI ys) = decide (xs = ys)
  | [], [] => rfl
  | [], _ :: _ => rfl
  | _ :: _, [] => rfl
  | x :: xs, y :: ys => by
    show (PyData.eqv (.int x) (.int y) && PyData.eqvAll (dI xs) (dI ys)) = _
    rw [eqv_int, eqvAll_ints xs ys]
    by_cases h : x = y <;> by_cases h2 : xs = ys <;> simp [h, h2]
theorem cp_eqI (a b : Int) : cpD .eq (.int a) (.int b) = some (decide (a = b)) := by
  simp [cpD, shaped_int, eqv_int]
theorem cp_neI (a b : Int) : cpD .ne (.int a) (.int b) = some (!decide (a = b)) := by
  simp [cpD, shaped_int, eqv_int]
theorem cp_eqL (a b : List Int) : cpD .eq (.list (dI a)) (.list (dI b)) = some (decide (a = b)) := by
  have e : PyData.eqv (.list (dI a)) (.list (dI b)) = decide (a = b) := eqvAll_ints a b
  simp only [cpD, shaped_ints, e, Bool.and_self, if_true]
theorem cp_neL (a b : List Int) : cpD .ne (.list (dI a)) (.list (dI b)) = some (!decide (a = b)) := by
  have e : PyData.eqv (.list (dI a)) (.list (dI b)) = decide (a = b) := eqvAll_ints a b
  simp only [cpD, shaped_ints, e, Bool.and_self, if_true]
theorem atI_of {α : Type} {xs : List α} {k : Nat} {v : α} (h : xs[k]? = some v) : L2.atI xs (k : Int) = some v := L2.atI_nat h
/-! ### what draws -/
def IsDraw (g : Sem) : Prop := ∀ a b c m : Int, 0 < m → m < 10 ^ 80 → ∃ f a' b' c' : Int, 0 ≤ f ∧ f < m ∧ g [.own (.lst [.int a, .int b, .int c]) false, .d (.int m)] = .ret (.int f) false [.own (.lst [.int a', .int b', .int c']) false, .d (.int m)]
def IsPen (g : Sem) : Prop := ∀ i : Int, ∃ a b c : Int, g [.d (.int i)] = .ret (.list [.int a, .int b, .int c]) true [.d (.int i)]
def IsNext (g : Sem) : Prop := ∀ i : Int, ∃ t : Int, 0 ≤ t ∧ t < 2147483629 ∧ g [.d (.int i)] = .ret (.int t) false [.d (.int i)]
def IsCell (g : Sem) : Prop := ∀ (ns : List Int) (k : Nat), ∃ i : Int, g [.ro (.list (dI ns)), .d (.int k)] = .ret (.int i) false [.ro (.list (dI ns)), .d (.int k)]
/-! ### comprehensions over data -/
theorem set_none_back {r0 : Rho} {i : Nat} {x : Option SV} (h : r0[i]? = some none) : (r0.set i x).set i none = r0 := by
  apply List.ext_getElem?
  intro j
  by_cases e : i = j
  · subst e
    rw [List.getElem?_set_self (by rw [List.length_set]; exact (List.getElem?_eq_some_iff.mp h).1), h]
  · rw [List.getElem?_set_ne e, List.getElem?_set_ne e]
theorem comp_map {φ : Phi} {elt : E} {i : Nat} {r0 : Rho} (f : PyData → PyData) (h : r0[i]? = some none) : ∀ xs : List PyData, (∀ x ∈ xs, dof (evP φ elt).1 (r0.set i (some (.d x))) = .ok (f x) (r0.set i (some (.d x)))) →
    compL (.one i) (evC φ .nil) (dof (evP φ elt).1) none xs r0 = .ok (xs.map f) r0 := by
  intro xs
  induction xs with
  | nil => intro _; simp [compL, stands]
  | cons x xs ih =>
    intro hx
    have e1 := hx x (List.mem_cons_self ..)
    have e2 := ih fun y hy => hx y (List.mem_cons_of_mem _ hy)
    have ec : ∀ r, evC φ .nil r = .ok true r := fun _ => rfl
    unfold compL
    simp only [stands, if_true, setT, ec, nox, R.bind, e1, Tg.slots, wipeR, set_none_back h, e2, List.map_cons]
theorem ev_comp {φ : Phi} {it : It} {elt : E} {i : Nat} {r r1 : Rho} {xs : List PyData} (f : PyData → PyData) (hi : evIt φ it r = .ok (xs, none) r1) (hn : r1[i]? = some none) (hl : xs.length ≤ line) (he : ∀ x ∈ xs, dof (evP φ elt).1 (r1.set i (some (.d x))) = .ok (f x) (r1.set i (some (.d x)))) :
    (evP φ (.comp (.one i) it .nil elt)).1 r = .ok (.d (.list (xs.map f)) true) r1 := by
  have e : (evP φ (.comp (.one i) it .nil elt)).1 r = (evIt φ it r).bind fun q r1 => if noOwn r1 [i] && decide (q.1.length ≤ line) then (compL (.one i) (evC φ .nil) (dof (evP φ elt).1) q.2 q.1 (wipeR r1 [i])).bind fun ys r2 => .ok (.d (.list ys) true) (backR r1 r2 [i]) else .stuck := by
    rfl
  have hw : wipeR r1 [i] = r1 := by
    show r1.set i none = r1
    have := set_none_back (x := none) hn
    rw [List.set_set] at this
    exact this
  have hb : backR r1 r1 [i] = r1 := by
    show r1.set i ((r1[i]?).getD none) = r1
    rw [hn]
    exact hw
  have hno : noOwn r1 [i] = true := by
    simp [noOwn, hn]
  rw [e, hi]
  simp only [R.bind, hno, hw, decide_eq_true hl, Bool.and_self, if_true, comp_map f hn xs he, hb]
/-! ### natural numbers -/
def cI (l : List Nat) : List Int := l.map fun (n : Nat) => (n : Int)
abbrev dN (l : List Nat) : List PyData := dI (cI l)
theorem cI_len (l : List Nat) : (cI l).length = l.length := by simp [cI]
def xn (l : List Nat) : Nat := l.foldl (· ^^^ ·) 0
theorem xor_cast : ∀ (l : List Nat) (a : Nat), (cI l).foldl Builtin.bitXor (a : Int) = ((l.foldl (· ^^^ ·) a : Nat) : Int)
  | [], a => rfl
  | x :: l, a => by
    rw [show cI (x :: l) = (x : Int) :: cI l from rfl, List.foldl_cons, List.foldl_cons, Bits.bitXor_pp (Int.natCast_nonneg _) (Int.natCast_nonneg _)]
    exact xor_cast l _
theorem foldl_xor (l : List Nat) : ∀ a : Nat, l.foldl (· ^^^ ·) a = a ^^^ xn l := by
  induction l with
  | nil => intro a; simp [xn]
  | cons x l ih =>
    intro a
    have e : xn (x :: l) = x ^^^ xn l := by
      show l.foldl (· ^^^ ·) (0 ^^^ x) = _
      rw [ih, Nat.zero_xor]
    rw [List.foldl_cons, ih, e, Nat.xor_assoc]
theorem xn_cons (x : Nat) (l : List Nat) : xn (x :: l) = x ^^^ xn l := by
  show l.foldl (· ^^^ ·) (0 ^^^ x) = _
  rw [foldl_xor, Nat.zero_xor]
theorem xn_append (l m : List Nat) : xn (l ++ m) = xn l ^^^ xn m := by
  unfold xn
  rw [List.foldl_append, foldl_xor]
  rfl
theorem xn_reverse (l : List Nat) : xn l.reverse = xn l := by
  induction l with
  | nil => rfl
  | cons x l ih => rw [List.reverse_cons, xn_append, ih, xn_cons, xn_cons, Nat.xor_comm]; simp [xn]
theorem xor_split (a b : Nat) : (a ^^^ b) = (a + b) % 2 + 2 * ((a / 2) ^^^ (b / 2)) := by
  have h1 : (a ^^^ b) % 2 = (a + b) % 2 := by
    have := Nat.xor_mod_two_eq_one (a := a) (b := b)
    omega
  have h2 : (a ^^^ b) / 2 = (a / 2) ^^^ (b / 2) := Nat.xor_div_two
  omega
theorem xn_half (l : List Nat) : xn l = (l.map (· % 2)).sum % 2 + 2 * xn (l.map (· / 2)) := by
  induction l with
  | nil => rfl
  | cons x l ih =>
    rw [xn_cons, List.map_cons, List.map_cons, List.sum_cons, xn_cons, xor_split]
    have e1 : xn l % 2 = (l.map (· % 2)).sum % 2 := by omega
    have e2 : xn l / 2 = xn (l.map (· / 2)) := by omega
    rw [e2]
    omega
theorem xn_zero (l : List Nat) (h : ∀ x ∈ l, x = 0) : xn l = 0 := by
  induction l with
  | nil => rfl
  | cons x l ih => rw [xn_cons, h x (List.mem_cons_self ..), ih fun y hy => h y (List.mem_cons_of_mem _ hy)]; rfl
theorem small_of_lt {i : Int} (h : 0 ≤ i) (h2 : i < 2 ^ 63) : smallI i = true := by
  exact decide_eq_true (by omega)
/-! ### operators on ints -/
theorem o2_add (a b : Int) : op2D .add (.int a) (.int b) = some (.int (a + b), false) := rfl
theorem o2_sub (a b : Int) : op2D .sub (.int a) (.int b) = some (.int (a - b), false) := rfl
theorem o2_xor (a b : Int) : op2D .xor (.int a) (.int b) = some (.int (Builtin.bitXor a b), false) := rfl
theorem o2_mulR (a b : Int) (h : smallI b = true) : op2D .mul (.int a) (.int b) = some (.int (a * b), false) := by
  have e : op2D .mul (.int a) (.int b) = if smallI a || smallI b then some (.int (a * b), false) else none := rfl
  rw [e, h, Bool.or_true, if_pos rfl]
theorem o2_mulL (a b : Int) (h : smallI a = true) : op2D .mul (.int a) (.int b) = some (.int (a * b), false) := by
  have e : op2D .mul (.int a) (.int b) = if smallI a || smallI b then some (.int (a * b), false) else none := rfl
  rw [e, h, Bool.true_or, if_pos rfl]
theorem o2_mod (a b : Int) (h : 0 < b) : op2D .mod (.int a) (.int b) = some (.int (a % b), false) := by
  have e : op2D .mod (.int a) (.int b) = if decide (0 < b) then some (.int (a % b), false) else none := rfl
  rw [e, decide_eq_true h, if_pos rfl]
theorem big80 {b : Int} (h0 : 0 < b) (h : b < 10 ^ 80) : b.natAbs < 2 ^ 300 := by
  have e : (10 ^ 80 : Nat) < 2 ^ 300 := by decide
  have e2 : b.natAbs < 10 ^ 80 := by omega
  exact Nat.lt_trans e2 e
theorem o2_fdivB (a b : Int) (h : 0 < b) (h2 : b < 10 ^ 80) : op2D .fdiv (.int a) (.int b) = some (.int (a / b), false) := by
  have e : op2D .fdiv (.int a) (.int b) = if decide (0 < b) && decide (b.natAbs < 2 ^ 300) then some (.int (a / b), false) else none := rfl
  rw [e, decide_eq_true h, decide_eq_true (big80 h h2), Bool.and_self, if_pos rfl]
theorem o2_fdiv (a b : Int) (h : 0 < b) (h2 : b < 1000000000) : op2D .fdiv (.int a) (.int b) = some (.int (a / b), false) := o2_fdivB a b h (Int.lt_trans h2 (by decide))
theorem o2_addL (a b : List PyData) (h : a.length + b.length ≤ 10000000) : op2D .add (.list a) (.list b) = some (.list (a ++ b), true) := by
  have e : op2D .add (.list a) (.list b) = if a.length + b.length ≤ line then some (.list (a ++ b), true) else none := rfl
  rw [e, if_pos (by rw [line]; omega)]
theorem o2_addT (a b : List PyData) (h : a.length + b.length ≤ 10000000) : op2D .add (.tuple a) (.tuple b) = some (.tuple (a ++ b), false) := by
  have e : op2D .add (.tuple a) (.tuple b) = if a.length + b.length ≤ line then some (.tuple (a ++ b), false) else none := rfl
  rw [e, if_pos (by rw [line]; omega)]
theorem o2_pow (a : Int) (b : Int) (h : 0 ≤ b) (h2 : b ≤ 1000) (h3 : a.natAbs < 1000) : op2D .pow (.int a) (.int b) = some (.int (a ^ b.toNat), false) := by
  have e : op2D .pow (.int a) (.int b) = if decide (0 ≤ b) && decide (b.natAbs ≤ 1000000) && decide (a.natAbs < 2 ^ 64) then some (.int (a ^ b.toNat), false) else none := rfl
  rw [e, decide_eq_true h, decide_eq_true (by omega : b.natAbs ≤ 1000000), decide_eq_true (by omega : a.natAbs < 2 ^ 64), Bool.and_self, Bool.and_self, if_pos rfl]
/-! ### comparisons on ints -/
theorem cp_ltI (a b : Int) : cpD .lt (.int a) (.int b) = some (decide (a < b)) := rfl
theorem cp_leI (a b : Int) : cpD .le (.int a) (.int b) = some (decide (a ≤ b)) := rfl
theorem cp_gtI (a b : Int) : cpD .gt (.int a) (.int b) = some (decide (b < a)) := rfl
theorem cp_geI (a b : Int) : cpD .ge (.int a) (.int b) = some (decide (b ≤ a)) := rfl
/-! ### steps -/
section
variable {φ : Phi} {r r1 r2 : Rho} {e e' c : E} {i j : Nat} {x y : PyData} {f : Bool} {s : S} {ss t u : Ss}
theorem s_seq (h : evS φ s r = .next r1) : evSs φ (.cons s ss) r = evSs φ ss r1 := by simp only [evSs, h]
theorem s_ret (h : evS φ s r = .ret x f r1) : evSs φ (.cons s ss) r = .ret x f r1 := by simp only [evSs, h]
theorem s_nil : evSs φ .nil r = .next r := rfl
theorem s_asg (h : (evP φ e).1 r = .ok (.d x f) r1) : evS φ (.asg i e) r = .next (r1.set i (some (.d x))) := by simp only [evS, evD, dof, h, R.bind, fz, stR]
theorem s_asgD (h : evD φ e r = .ok x r1) : evS φ (.asg i e) r = .next (r1.set i (some (.d x))) := by simp only [evS, h, stR]
theorem s_asgL {xs : List PyData} (h : (evP φ e).1 r = .ok (.d (.list xs) true) r1) : evS φ (.asgO i e) r = .next (r1.set i (some (.own (.lst xs) true))) := by simp only [evS, evE, h, stR, asgV]
theorem s_iffT (h : evT φ c r = .ok true r1) : evS φ (.iff c t u) r = evSs φ t r1 := by simp only [evS, h, stR, if_true]
theorem s_iffF (h : evT φ c r = .ok false r1) : evS φ (.iff c t u) r = evSs φ u r1 := by simp only [evS, h, stR]; rfl
theorem s_rete (h : (evP φ e).1 r = .ok (.d x f) r1) : evS φ (.ret e) r = .ret x f r1 := by simp only [evS, evE, h, stR, retV]
theorem s_expr {a : AV} (h : (evP φ e).1 r = .ok a r1) : evS φ (.expr e) r = .next r1 := by simp only [evS, evE, h, stR]
end
/-! ### drawing, called -/
abbrev Pen (a b c : Int) : Ob := .lst [.int a, .int b, .int c]
theorem c_draw {φ : Phi} {d i : Nat} {e : E} {r : Rho} {a b c k : Int} {m : Bool} {f0 : Bool} (hg : IsDraw (φ d)) (hr : r[i]? = some (some (.own (Pen a b c) m))) (he : (evP φ e).1 r = .ok (.d (.int k) f0) r) (h1 : 0 < k) (h2 : k < 10 ^ 80) :
    ∃ f a' b' c' : Int, 0 ≤ f ∧ f < k ∧ (evP φ (.call d (.cons (.var i) (.cons e .nil)))).1 r = .ok (.d (.int f) false) (r.set i (some (.own (Pen a' b' c') m))) := by
  obtain ⟨f, a', b', c', h3, h4, e1⟩ := hg a b c k h1 h2
  refine ⟨f, a', b', c', h3, h4, ?_⟩
  have e2 : (evP φ (.call d (.cons (.var i) (.cons e .nil)))).1 r = callV (φ d) [.var i, .d (.int k) false] r := by
    simp only [evP, mkP, evAs, hr, R.bind, he, unfr]
  rw [e2]
  simp [callV, argsV, argOf, hr, lent, lentOf, nodupN, e1, fits, backC]
/-- .. called with a pen alone -/
theorem c_pen1 {φ : Phi} {d i : Nat} {r : Rho} {a b c a' b' c' f : Int} {m : Bool} (e1 : φ d [.own (Pen a b c) false] = .ret (.int f) false [.own (Pen a' b' c') false]) (hr : r[i]? = some (some (.own (Pen a b c) m))) :
    (evP φ (.call d (.cons (.var i) .nil))).1 r = .ok (.d (.int f) false) (r.set i (some (.own (Pen a' b' c') m))) := by
  have e2 : (evP φ (.call d (.cons (.var i) .nil))).1 r = callV (φ d) [.var i] r := by
    simp only [evP, mkP, evAs, hr, R.bind, unfr]
  rw [e2]
  simp [callV, argsV, argOf, hr, lent, lentOf, nodupN, e1, fits, backC]
/-- a call of a def with one datum -/
theorem c_one {φ : Phi} {d : Nat} {e : E} {r r1 : Rho} {x y : PyData} {f0 f : Bool} (he : (evP φ e).1 r = .ok (.d x f0) r1) (e1 : φ d [.d x] = .ret y f [.d x]) : (evP φ (.call d (.cons e .nil))).1 r = .ok (.d y f) r1 := by
  have e2 : (evP φ (.call d (.cons e .nil))).1 r = callV (φ d) [.d x false] r1 := by
    simp only [evP, mkP, evAs, R.bind, he, unfr]
  rw [e2]
  simp [callV, argsV, argOf, lent, lentOf, nodupN, e1, fits, backC]
theorem e_int {φ : Phi} {r : Rho} {i : Int} : (evP φ (.int i)).1 r = .ok (.d (.int i) false) r := rfl
theorem e_var {φ : Phi} {r : Rho} {i : Nat} {x : PyData} (h : r[i]? = some (some (.d x))) : (evP φ (.var i)).1 r = .ok (.d x false) r := by
  simp only [evP, mkP, h]
section
variable {φ : Phi} {r r1 r2 r3 : Rho} {a b c : E} {x y z : PyData} {f g h : Bool} {k l : Bool} {n kk : Nat} {body : Ss} {vs os : List SV}
theorem e_op2 {o : Op2} (h1 : (evP φ a).1 r = .ok (.d x f) r1) (h2 : (evP φ b).1 r1 = .ok (.d y g) r2) (h3 : op2D o x y = some (z, h)) : (evP φ (.op2 o a b)).1 r = .ok (.d z h) r2 := by
  simp only [evP, mkP, h1, h2, R.bind, op2v, rd, h3]
theorem e_cmp {o : Cp} (h1 : (evP φ a).1 r = .ok (.d x f) r1) (h2 : (evP φ b).1 r1 = .ok (.d y g) r2) (h3 : cpD o x y = some k) : (evP φ (.cmp o a b)).1 r = .ok (.d (.bool k) false) r2 := by
  have e : cpV o (.d x f) (.d y g) r2 = .ok k r2 := by
    cases o <;> simp only [cpV, rd, rdr, h3]
  simp only [evP, mkP, h1, h2, R.bind, e]
theorem t_of {o' : Cp} (h1 : (evP φ (.cmp o' a b)).1 r = .ok (.d (.bool k) false) r2) : evT φ (.cmp o' a b) r = .ok k r2 := by
  have e : evT φ (.cmp o' a b) r = ((evP φ (.cmp o' a b)).1 r).bind fun x r1 => truthV x r1 := rfl
  rw [e, h1]
  rfl
theorem t_cmp {o : Cp} (h1 : (evP φ a).1 r = .ok (.d x f) r1) (h2 : (evP φ b).1 r1 = .ok (.d y g) r2) (h3 : cpD o x y = some k) : evT φ (.cmp o a b) r = .ok k r2 := t_of (e_cmp h1 h2 h3)
theorem t_andT (h1 : evT φ a r = .ok true r1) (h2 : evT φ b r1 = .ok k r2) : evT φ (.and a b) r = .ok k r2 := by
  have e : evT φ (.and a b) r = (evT φ a r).bind fun k r1 => if k then evT φ b r1 else .ok false r1 := rfl
  rw [e, h1]
  exact h2
theorem t_andF (h1 : evT φ a r = .ok false r1) : evT φ (.and a b) r = .ok false r1 := by
  have e : evT φ (.and a b) r = (evT φ a r).bind fun k r1 => if k then evT φ b r1 else .ok false r1 := rfl
  rw [e, h1]
  rfl
theorem t_orF (h1 : evT φ a r = .ok false r1) (h2 : evT φ b r1 = .ok k r2) : evT φ (.or a b) r = .ok k r2 := by
  have e : evT φ (.or a b) r = (evT φ a r).bind fun k r1 => if k then .ok true r1 else evT φ b r1 := rfl
  rw [e, h1]
  exact h2
theorem t_orT (h1 : evT φ a r = .ok true r1) : evT φ (.or a b) r = .ok true r1 := by
  have e : evT φ (.or a b) r = (evT φ a r).bind fun k r1 => if k then .ok true r1 else evT φ b r1 := rfl
  rw [e, h1]
  rfl
theorem t_not (h1 : evT φ a r = .ok k r1) : evT φ (.not a) r = .ok (!k) r1 := by
  have e : evT φ (.not a) r = (evT φ a r).bind fun k r1 => .ok (!k) r1 := rfl
  rw [e, h1]
  rfl
theorem t_call {i : Nat} {es : Es} (h1 : (evP φ (.call i es)).1 r = .ok (.d (.bool k) false) r2) : evT φ (.call i es) r = .ok k r2 := by
  have e : evT φ (.call i es) r = ((evP φ (.call i es)).1 r).bind fun x r1 => truthV x r1 := rfl
  rw [e, h1]
  rfl
theorem fn_ret {d : PyData} {fr : Bool} (hl : vs.length = kk) (h1 : evSs φ body (vs.map some ++ List.replicate (n - kk) none) = .ret d fr r) (ho : outsV vs r = some os) : fnV n kk body φ vs = .ret d fr os := by
  unfold fnV
  rw [if_pos hl, h1]
  dsimp only
  rw [ho]
theorem e_lst1 (h1 : (evP φ a).1 r = .ok (.d x f) r1) : (evP φ (.lst (.cons a .nil))).1 r = .ok (.d (.list [x]) true) r1 := by
  simp only [evP, mkP, evDs, dof, h1, R.bind, fz]
theorem e_ix (h1 : (evP φ a).1 r = .ok (.d x f) r1) (h2 : (evP φ b).1 r1 = .ok (.d y g) r2) (h3 : ixD x y = some z) : (evP φ (.ix a b)).1 r = .ok (.d z false) r2 := by
  simp only [evP, mkP, h1, h2, R.bind, ixV, rd, rdr, h3]
theorem e_bi {o : Bi} (h1 : (evP φ a).1 r = .ok (.d x f) r1) (h3 : biD o x = some (z, h)) : (evP φ (.bi o a)).1 r = .ok (.d z h) r1 := by
  simp only [evP, mkP, h1, R.bind, op1, rd, h3]
theorem e_rev (h1 : (evP φ a).1 r = .ok (.d x f) r1) (h3 : revD x = some (z, h)) : (evP φ (.rev a)).1 r = .ok (.d z h) r1 := by
  simp only [evP, mkP, h1, R.bind, op1, rd, h3]
theorem s_for {tg : Tg} {it : It} {xs : List PyData} (h1 : evItF φ it r = .ok xs r1) : evS φ (.for_ tg it body) r = forL tg (evSs φ body) xs r1 := by
  simp only [evS, h1, stR]
end
end Ev
/-! What must hold ahead of a text so that behind it holds what is wanted: one rule for each construct. -/
namespace Ev
open PySem

abbrev XC := Nat → List D → Rho → Prop
def wv {α : Type} (x : R α) (X : XC) (k : α → Rho → Prop) : Prop := match x with
  | .ok a r => k a r
  | .exc c fs r => X c fs r
  | .stuck => False
theorem wv_bind {α β : Type} (x : R α) (f : α → Rho → R β) (X : XC) (k : β → Rho → Prop) : wv (x.bind f) X k = wv x X fun a r => wv (f a r) X k := by cases x <;> rfl
theorem wv_mono {α : Type} {x : R α} {X : XC} {k k' : α → Rho → Prop} (h : wv x X k) (g : ∀ a r, k a r → k' a r) : wv x X k' := by
  cases x with
  | ok a r => exact g _ _ h
  | exc c fs r => exact h
  | stuck => exact h
theorem wv_ok {α : Type} {x : R α} {X : XC} {k : α → Rho → Prop} {a : α} {r : Rho} (h : wv x X fun b s => b = a ∧ s = r) (hX : ∀ c fs r, X c fs r → False) : x = .ok a r := by
  cases x with
  | ok b s => obtain ⟨rfl, rfl⟩ := h; rfl
  | exc c fs r => exact (hX _ _ _ h).elim
  | stuck => exact h.elim
structure WE (φ : Phi) (X : XC) (e : E) (r : Rho) (k : AV → Rho → Prop) : Prop where
  out : wv ((evP φ e).1 r) X k
structure WT (φ : Phi) (X : XC) (e : E) (r : Rho) (k : Bool → Rho → Prop) : Prop where
  out : wv ((evP φ e).2 r) X k
structure WD (φ : Phi) (X : XC) (e : E) (r : Rho) (k : D → Rho → Prop) : Prop where
  out : wv (dof (evP φ e).1 r) X k
structure WDs (φ : Phi) (X : XC) (es : Es) (r : Rho) (k : List D → Rho → Prop) : Prop where
  out : wv (evDs φ es r) X k
structure WAs (φ : Phi) (X : XC) (es : Es) (r : Rho) (k : List AV → Rho → Prop) : Prop where
  out : wv (evAs φ es r) X k
structure WC (φ : Phi) (X : XC) (es : Es) (r : Rho) (k : Bool → Rho → Prop) : Prop where
  out : wv (evC φ es r) X k
structure WIt (φ : Phi) (X : XC) (it : It) (r : Rho) (k : List D × Option (Nat × D) → Rho → Prop) : Prop where
  out : wv (evIt φ it r) X k
structure WItF (φ : Phi) (X : XC) (it : It) (r : Rho) (k : List D → Rho → Prop) : Prop where
  out : wv (evItF φ it r) X k
/-- a step behind the operands; t tells which -/
structure WV (t : Nat) {α : Type} (x : R α) (X : XC) (k : α → Rho → Prop) : Prop where
  out : wv x X k
section
variable {φ : Phi} {X : XC} {a b c d e : E} {es lo hi : Es} {r : Rho} {k : AV → Rho → Prop} {i j : Nat} {x y z : D} {f g : Bool} {o : Op2}

/-! ### leaves -/
theorem w_var (h : r[i]? = some (some (.d x))) (hk : k (.d x false) r) : WE φ X (.var i) r k := ⟨by
  have e : (evP φ (.var i)).1 r = .ok (.d x false) r := by simp only [evP, mkP, h]
  rw [e]; exact hk⟩
theorem w_own {ob : Ob} {m : Bool} (h : r[i]? = some (some (.own ob m))) (hk : k (.var i) r) : WE φ X (.var i) r k := ⟨by
  have e : (evP φ (.var i)).1 r = .ok (.var i) r := by simp only [evP, mkP, h]
  rw [e]; exact hk⟩
theorem w_ro (h : r[i]? = some (some (.ro x))) (hk : k (.var i) r) : WE φ X (.var i) r k := ⟨by
  have e : (evP φ (.var i)).1 r = .ok (.var i) r := by simp only [evP, mkP, h]
  rw [e]; exact hk⟩
theorem w_int {n : Int} (hk : k (.d (.int n) false) r) : WE φ X (.int n) r k := ⟨hk⟩
theorem w_str {n : Str} (hk : k (.d (.str n) false) r) : WE φ X (.str n) r k := ⟨hk⟩
theorem w_bl {n : Bool} (hk : k (.d (.bool n) false) r) : WE φ X (.bl n) r k := ⟨hk⟩
theorem w_non (hk : k (.d .none false) r) : WE φ X .non r k := ⟨hk⟩
theorem w_dict0 (hk : k (.d (.dict []) true) r) : WE φ X .dict0 r k := ⟨hk⟩
theorem w_glob {n : Str} (h : flatD x = true) (hk : k (.d x false) r) : WE φ X (.glob n x) r k := ⟨by
  have e : (evP φ (.glob n x)).1 r = .ok (.d x false) r := by simp only [evP, mkP, h]
  rw [e]; exact hk⟩
theorem w_globC {n : Str} (h : flatD x = false) (hk : k (.cst x) r) : WE φ X (.glob n x) r k := ⟨by
  have e : (evP φ (.glob n x)).1 r = .ok (.cst x) r := by simp only [evP, mkP, h]
  rw [e]; exact hk⟩
/-! ### kept data -/
theorem w_d {k : D → Rho → Prop} (h : WE φ X e r fun x r1 => WV 20 (fz r1 x) X k) : WD φ X e r k := ⟨by
  unfold dof
  rw [wv_bind]
  exact wv_mono h.out fun x r1 h1 => h1.out⟩
theorem w_fz {k : D → Rho → Prop} (hk : k x r) : WV 20 (fz r (.d x f)) X k := ⟨hk⟩
theorem w_fzL {k : D → Rho → Prop} {xs : List D} (h : r[i]? = some (some (.own (.lst xs) true))) (hk : k (.list xs) (r.set i (some (.d (.list xs))))) : WV 20 (fz r (.var i)) X k := ⟨by
  have e : fz r (.var i) = .ok (.list xs) (r.set i (some (.d (.list xs)))) := by simp only [fz, h]
  rw [e]; exact hk⟩
theorem w_fzD {k : D → Rho → Prop} {xs : List (D × D)} (h : r[i]? = some (some (.own (.dk xs) true))) (hk : k (.dict xs) (r.set i (some (.d (.dict xs))))) : WV 20 (fz r (.var i)) X k := ⟨by
  have e : fz r (.var i) = .ok (.dict xs) (r.set i (some (.d (.dict xs)))) := by simp only [fz, h]
  rw [e]; exact hk⟩
/-! ### operators -/
theorem w_op2 (h : WE φ X a r fun x r1 => WE φ X b r1 fun y r2 => WV 1 (op2v (op2D o) x y r2) X k) : WE φ X (.op2 o a b) r k := ⟨by
  have e : (evP φ (.op2 o a b)).1 r = ((evP φ a).1 r).bind fun x r1 => ((evP φ b).1 r1).bind fun y r2 => op2v (op2D o) x y r2 := rfl
  rw [e, wv_bind]
  refine wv_mono h.out fun x r1 h1 => ?_
  rw [wv_bind]
  exact wv_mono h1.out fun y r2 h2 => h2.out⟩
theorem w_op2v {u v : AV} {F : D → D → Option (D × Bool)} (hx : rd r u = some x) (hy : rd r v = some y) (h : F x y = some (z, f)) (hk : k (.d z f) r) : WV 1 (op2v F u v r) X k := ⟨by
  have e : op2v F u v r = .ok (.d z f) r := by simp only [op2v, hx, hy, h]
  rw [e]; exact hk⟩
theorem w_op1v {u : AV} {F : D → Option (D × Bool)} (hx : rd r u = some x) (h : F x = some (z, f)) (hk : k (.d z f) r) : WV 2 (op1 F u r) X k := ⟨by
  have e : op1 F u r = .ok (.d z f) r := by simp only [op1, hx, h]
  rw [e]; exact hk⟩
theorem w_op1r {u : AV} {F : D → Option (D × Bool)} (hx : rdr r u = some x) (h : F x = some (z, f)) (hk : k (.d z f) r) : WV 3 (op1r F u r) X k := ⟨by
  have e : op1r F u r = .ok (.d z f) r := by simp only [op1r, hx, h]
  rw [e]; exact hk⟩
theorem w_op1l {u : AV} {F : D → Option (D × Bool)} (hx : rdl r u = some x) (h : F x = some (z, f)) (hk : k (.d z f) r) : WV 4 (op1l F u r) X k := ⟨by
  have e : op1l F u r = .ok (.d z f) r := by simp only [op1l, hx, h]
  rw [e]; exact hk⟩
theorem w_neg (h : WE φ X a r fun x r1 => WV 2 (op1 negD x r1) X k) : WE φ X (.neg a) r k := ⟨by
  have e : (evP φ (.neg a)).1 r = ((evP φ a).1 r).bind fun x r1 => op1 negD x r1 := rfl
  rw [e, wv_bind]
  exact wv_mono h.out fun x r1 h1 => h1.out⟩
theorem w_rev (h : WE φ X a r fun x r1 => WV 2 (op1 revD x r1) X k) : WE φ X (.rev a) r k := ⟨by
  have e : (evP φ (.rev a)).1 r = ((evP φ a).1 r).bind fun x r1 => op1 revD x r1 := rfl
  rw [e, wv_bind]
  exact wv_mono h.out fun x r1 h1 => h1.out⟩
theorem w_len (h : WE φ X a r fun x r1 => WV 3 (op1r lenP x r1) X k) : WE φ X (.len a) r k := ⟨by
  have e : (evP φ (.len a)).1 r = ((evP φ a).1 r).bind fun x r1 => op1r lenP x r1 := rfl
  rw [e, wv_bind]
  exact wv_mono h.out fun x r1 h1 => h1.out⟩
theorem w_bi {o : Bi} (h : WE φ X a r fun x r1 => WV 2 (op1 (biD o) x r1) X k) : WE φ X (.bi o a) r k := ⟨by
  have e : (evP φ (.bi o a)).1 r = ((evP φ a).1 r).bind fun x r1 => op1 (biD o) x r1 := rfl
  rw [e, wv_bind]
  exact wv_mono h.out fun x r1 h1 => h1.out⟩
theorem w_bi2 {o : Bi2} (h : WE φ X a r fun x r1 => WE φ X b r1 fun y r2 => WV 1 (op2v (bi2D o) x y r2) X k) : WE φ X (.bi2 o a b) r k := ⟨by
  have e : (evP φ (.bi2 o a b)).1 r = ((evP φ a).1 r).bind fun x r1 => ((evP φ b).1 r1).bind fun y r2 => op2v (bi2D o) x y r2 := rfl
  rw [e, wv_bind]
  refine wv_mono h.out fun x r1 h1 => ?_
  rw [wv_bind]
  exact wv_mono h1.out fun y r2 h2 => h2.out⟩
theorem w_mr {o : Mr} (h : WE φ X a r fun x r1 => isSV o x r1 = true ∧ WE φ X b r1 fun y r2 => WV 1 (op2v (mrD o) x y r2) X k) : WE φ X (.mr o a b) r k := ⟨by
  have e : (evP φ (.mr o a b)).1 r = ((evP φ a).1 r).bind fun x r1 => if isSV o x r1 then ((evP φ b).1 r1).bind fun y r2 => op2v (mrD o) x y r2 else .stuck := rfl
  rw [e, wv_bind]
  refine wv_mono h.out fun x r1 h1 => ?_
  rw [if_pos h1.1, wv_bind]
  exact wv_mono h1.2.out fun y r2 h2 => h2.out⟩
theorem w_dix (h : WE φ X a r fun x r1 => WE φ X b r1 fun y r2 => WV 1 (op2v dixP x y r2) X k) : WE φ X (.dix a b) r k := ⟨by
  have e : (evP φ (.dix a b)).1 r = ((evP φ a).1 r).bind fun x r1 => ((evP φ b).1 r1).bind fun y r2 => op2v dixP x y r2 := rfl
  rw [e, wv_bind]
  refine wv_mono h.out fun x r1 h1 => ?_
  rw [wv_bind]
  exact wv_mono h1.out fun y r2 h2 => h2.out⟩
theorem w_isi {t : Ty} (h : WE φ X a r fun x r1 => WV 2 (op1 (isiP t) x r1) X k) : WE φ X (.isi a t) r k := ⟨by
  have e : (evP φ (.isi a t)).1 r = ((evP φ a).1 r).bind fun x r1 => op1 (isiP t) x r1 := rfl
  rw [e, wv_bind]
  exact wv_mono h.out fun x r1 h1 => h1.out⟩
theorem w_ix (h : WE φ X a r fun x r1 => WE φ X b r1 fun y r2 => WV 5 (ixV x y r2) X k) : WE φ X (.ix a b) r k := ⟨by
  have e : (evP φ (.ix a b)).1 r = ((evP φ a).1 r).bind fun x r1 => ((evP φ b).1 r1).bind fun y r2 => ixV x y r2 := rfl
  rw [e, wv_bind]
  refine wv_mono h.out fun x r1 h1 => ?_
  rw [wv_bind]
  exact wv_mono h1.out fun y r2 h2 => h2.out⟩
theorem w_ixv {u v : AV} (hx : rdr r u = some x) (hy : rd r v = some y) (h : ixD x y = some z) (hk : k (.d z false) r) : WV 5 (ixV u v r) X k := ⟨by
  have e : ixV u v r = .ok (.d z false) r := by simp only [ixV, hx, hy, h]
  rw [e]; exact hk⟩
theorem w_sl1 (h : WE φ X a r fun x r1 => WE φ X b r1 fun y r2 => ∃ n f, y = .d (.int n) f ∧ WV 4 (op1l (slD (some n) none) x r2) X k) : WE φ X (.sl a (.cons b .nil) .nil) r k := ⟨by
  have e : (evP φ (.sl a (.cons b .nil) .nil)).1 r = ((evP φ a).1 r).bind fun x r1 => ((((evP φ b).1 r1).bind fun y r2 => R.ok [unfr y] r2).bind fun l r2 => R.opt (partAV l) r2).bind fun l r2 => op1l (slD l none) x r2 := rfl
  rw [e, wv_bind]
  refine wv_mono h.out fun x r1 h1 => ?_
  rw [wv_bind, wv_bind, wv_bind]
  refine wv_mono h1.out fun y r2 h2 => ?_
  obtain ⟨n, f, rfl, w⟩ := h2
  exact w.out⟩
theorem w_sl2 (h : WE φ X a r fun x r1 => WE φ X b r1 fun y r2 => ∃ n f, y = .d (.int n) f ∧ WV 4 (op1l (slD none (some n)) x r2) X k) : WE φ X (.sl a .nil (.cons b .nil)) r k := ⟨by
  have e : (evP φ (.sl a .nil (.cons b .nil))).1 r = ((evP φ a).1 r).bind fun x r1 => ((((evP φ b).1 r1).bind fun y r2 => R.ok [unfr y] r2).bind fun l r2 => R.opt (partAV l) r2).bind fun l r2 => op1l (slD none l) x r2 := rfl
  rw [e, wv_bind]
  refine wv_mono h.out fun x r1 h1 => ?_
  rw [wv_bind, wv_bind, wv_bind]
  refine wv_mono h1.out fun y r2 h2 => ?_
  obtain ⟨n, f, rfl, w⟩ := h2
  exact w.out⟩
theorem w_sl3 (h : WE φ X a r fun x r1 => WE φ X b r1 fun y r2 => ∃ n f, y = .d (.int n) f ∧ WE φ X c r2 fun z r3 => ∃ m f, z = .d (.int m) f ∧ WV 4 (op1l (slD (some n) (some m)) x r3) X k) : WE φ X (.sl a (.cons b .nil) (.cons c .nil)) r k := ⟨by
  have e : (evP φ (.sl a (.cons b .nil) (.cons c .nil))).1 r = ((evP φ a).1 r).bind fun x r1 => ((((evP φ b).1 r1).bind fun y r2 => R.ok [unfr y] r2).bind fun l r2 => R.opt (partAV l) r2).bind fun l r2 => ((((evP φ c).1 r2).bind fun y r3 => R.ok [unfr y] r3).bind fun h r3 => R.opt (partAV h) r3).bind fun h r3 => op1l (slD l h) x r3 := rfl
  rw [e, wv_bind]
  refine wv_mono h.out fun x r1 h1 => ?_
  rw [wv_bind, wv_bind, wv_bind]
  refine wv_mono h1.out fun y r2 h2 => ?_
  obtain ⟨n, f, rfl, w⟩ := h2
  show wv (((((evP φ c).1 r2).bind fun y r3 => R.ok [unfr y] r3).bind fun h r3 => R.opt (partAV h) r3).bind fun h r3 => op1l (slD (some n) h) x r3) X k
  rw [wv_bind, wv_bind, wv_bind]
  refine wv_mono w.out fun y r2 h2 => ?_
  obtain ⟨n, f, rfl, w⟩ := h2
  exact w.out⟩
theorem w_dget1 (h : WE φ X a r fun x r1 => isDV x r1 = true ∧ WE φ X b r1 fun y r2 => WV 1 (op2v dget1D x y r2) X k) : WE φ X (.dget1 a b) r k := ⟨by
  have e : (evP φ (.dget1 a b)).1 r = ((evP φ a).1 r).bind fun x r1 => if isDV x r1 then ((evP φ b).1 r1).bind fun y r2 => op2v dget1D x y r2 else .stuck := rfl
  rw [e, wv_bind]
  refine wv_mono h.out fun x r1 h1 => ?_
  rw [if_pos h1.1, wv_bind]
  exact wv_mono h1.2.out fun y r2 h2 => h2.out⟩
theorem w_dget2 (h : WE φ X a r fun x r1 => isDV x r1 = true ∧ WE φ X b r1 fun y r2 => WE φ X c r2 fun z r3 => WV 6 (dget2V x y z r3) X k) : WE φ X (.dget2 a b c) r k := ⟨by
  have e : (evP φ (.dget2 a b c)).1 r = ((evP φ a).1 r).bind fun x r1 => if isDV x r1 then ((evP φ b).1 r1).bind fun y r2 => ((evP φ c).1 r2).bind fun w r3 => dget2V x y w r3 else .stuck := rfl
  rw [e, wv_bind]
  refine wv_mono h.out fun x r1 h1 => ?_
  rw [if_pos h1.1, wv_bind]
  refine wv_mono h1.2.out fun y r2 h2 => ?_
  rw [wv_bind]
  exact wv_mono h2.out fun z r3 h3 => h3.out⟩
theorem w_dget2v {u v w : AV} {kvs : List (D × D)} (h1 : rd r u = some (.dict kvs)) (h2 : rd r v = some x) (h3 : rd r w = some y) (h4 : isKey x = true) (h5 : flatD y = true) (hk : k (.d ((dfind x kvs).getD y) false) r) : WV 6 (dget2V u v w r) X k := ⟨by
  have e : dget2V u v w r = .ok (.d ((dfind x kvs).getD y) false) r := by simp only [dget2V, h1, h2, h3, h4, h5]; rfl
  rw [e]; exact hk⟩
/-! ### truth -/
def isPlain : E → Bool
  | .not _ => false
  | .and _ _ => false
  | .or _ _ => false
  | .ite _ _ _ => false
  | _ => true
theorem plain_eq (φ : Phi) : ∀ e : E, isPlain e = true → ∀ r, (evP φ e).2 r = ((evP φ e).1 r).bind fun x r1 => truthV x r1 := by
  intro e h r
  cases e <;> first | rfl | cases h
theorem w_tr {k : Bool → Rho → Prop} (hp : isPlain e = true) (h : WE φ X e r fun x r1 => WV 7 (truthV x r1) X k) : WT φ X e r k := ⟨by
  rw [plain_eq φ e hp, wv_bind]
  exact wv_mono h.out fun x r1 h1 => h1.out⟩
theorem w_trv {k : Bool → Rho → Prop} {u : AV} {n : Bool} (hx : rd r u = some x) (h : truthD x = some n) (hk : k n r) : WV 7 (truthV u r) X k := ⟨by
  have e : truthV u r = .ok n r := by simp only [truthV, hx, h]
  rw [e]; exact hk⟩
theorem w_notT {k : Bool → Rho → Prop} (h : WT φ X a r fun n r1 => k (!n) r1) : WT φ X (.not a) r k := ⟨by
  have e : (evP φ (.not a)).2 r = ((evP φ a).2 r).bind fun k r1 => .ok (!k) r1 := rfl
  rw [e, wv_bind]
  exact wv_mono h.out fun n r1 h1 => h1⟩
/-- both sides change nothing: one way on -/
theorem w_orT {k : Bool → Rho → Prop} {p q : Bool} (h1 : WT φ X a r fun n r1 => n = p ∧ r1 = r) (h2 : p = false → WT φ X b r fun n r1 => n = q ∧ r1 = r) (hk : k (p || q) r) : WT φ X (.or a b) r k := ⟨by
  have e : (evP φ (.or a b)).2 r = ((evP φ a).2 r).bind fun k r1 => if k then .ok true r1 else (evP φ b).2 r1 := rfl
  rw [e, wv_bind]
  refine wv_mono h1.out fun n r1 h1 => ?_
  obtain ⟨rfl, rfl⟩ := h1
  cases n with
  | true => exact hk
  | false =>
    refine wv_mono (h2 rfl).out fun n r1 h1 => ?_
    obtain ⟨rfl, rfl⟩ := h1
    exact hk⟩
theorem w_andT {k : Bool → Rho → Prop} {p q : Bool} (h1 : WT φ X a r fun n r1 => n = p ∧ r1 = r) (h2 : p = true → WT φ X b r fun n r1 => n = q ∧ r1 = r) (hk : k (p && q) r) : WT φ X (.and a b) r k := ⟨by
  have e : (evP φ (.and a b)).2 r = ((evP φ a).2 r).bind fun k r1 => if k then (evP φ b).2 r1 else .ok false r1 := rfl
  rw [e, wv_bind]
  refine wv_mono h1.out fun n r1 h1 => ?_
  obtain ⟨rfl, rfl⟩ := h1
  cases n with
  | false => exact hk
  | true =>
    refine wv_mono (h2 rfl).out fun n r1 h1 => ?_
    obtain ⟨rfl, rfl⟩ := h1
    exact hk⟩
/-- .. else two ways -/
theorem w_orT2 {k : Bool → Rho → Prop} (h1 : WT φ X a r fun n r1 => (n = true → k true r1) ∧ (n = false → WT φ X b r1 k)) : WT φ X (.or a b) r k := ⟨by
  have e : (evP φ (.or a b)).2 r = ((evP φ a).2 r).bind fun k r1 => if k then .ok true r1 else (evP φ b).2 r1 := rfl
  rw [e, wv_bind]
  refine wv_mono h1.out fun n r1 h1 => ?_
  cases n with
  | true => exact h1.1 rfl
  | false => exact (h1.2 rfl).out⟩
theorem w_andT2 {k : Bool → Rho → Prop} (h1 : WT φ X a r fun n r1 => (n = false → k false r1) ∧ (n = true → WT φ X b r1 k)) : WT φ X (.and a b) r k := ⟨by
  have e : (evP φ (.and a b)).2 r = ((evP φ a).2 r).bind fun k r1 => if k then (evP φ b).2 r1 else .ok false r1 := rfl
  rw [e, wv_bind]
  refine wv_mono h1.out fun n r1 h1 => ?_
  cases n with
  | false => exact h1.1 rfl
  | true => exact (h1.2 rfl).out⟩
theorem w_iteT {k : Bool → Rho → Prop} (h1 : WT φ X c r fun n r1 => (n = true → WT φ X a r1 k) ∧ (n = false → WT φ X b r1 k)) : WT φ X (.ite c a b) r k := ⟨by
  have e : (evP φ (.ite c a b)).2 r = ((evP φ c).2 r).bind fun k r1 => if k then (evP φ a).2 r1 else (evP φ b).2 r1 := rfl
  rw [e, wv_bind]
  refine wv_mono h1.out fun n r1 h1 => ?_
  cases n with
  | true => exact (h1.1 rfl).out
  | false => exact (h1.2 rfl).out⟩
/-! ### truths as values -/
theorem w_not (h : WE φ X a r fun x r1 => ∃ n f, x = .d (.bool n) f ∧ k (.d (.bool !n) false) r1) : WE φ X (.not a) r k := ⟨by
  have e : (evP φ (.not a)).1 r = ((evP φ a).1 r).bind fun x r1 => (asBool x r1).bind fun k r2 => .ok (.d (.bool (!k)) false) r2 := rfl
  rw [e, wv_bind]
  refine wv_mono h.out fun x r1 h1 => ?_
  obtain ⟨n, f, rfl, h2⟩ := h1
  exact h2⟩
theorem w_or {p q : Bool} (h1 : WE φ X a r fun x r1 => (∃ f, x = .d (.bool p) f) ∧ r1 = r) (h2 : p = false → WE φ X b r fun x r1 => x = .d (.bool q) false ∧ r1 = r) (hk : k (.d (.bool (p || q)) false) r) : WE φ X (.or a b) r k := ⟨by
  have e : (evP φ (.or a b)).1 r = ((evP φ a).1 r).bind fun x r1 => (asBool x r1).bind fun k r2 => if k then .ok (.d (.bool true) false) r2 else (evP φ b).1 r2 := rfl
  rw [e, wv_bind]
  refine wv_mono h1.out fun x r1 h1 => ?_
  obtain ⟨⟨f, rfl⟩, rfl⟩ := h1
  cases p with
  | true => exact hk
  | false =>
    refine wv_mono (h2 rfl).out fun n r1 h1 => ?_
    obtain ⟨rfl, rfl⟩ := h1
    exact hk⟩
theorem w_and {p q : Bool} (h1 : WE φ X a r fun x r1 => (∃ f, x = .d (.bool p) f) ∧ r1 = r) (h2 : p = true → WE φ X b r fun x r1 => x = .d (.bool q) false ∧ r1 = r) (hk : k (.d (.bool (p && q)) false) r) : WE φ X (.and a b) r k := ⟨by
  have e : (evP φ (.and a b)).1 r = ((evP φ a).1 r).bind fun x r1 => (asBool x r1).bind fun k r2 => if k then (evP φ b).1 r2 else .ok (.d (.bool false) false) r2 := rfl
  rw [e, wv_bind]
  refine wv_mono h1.out fun x r1 h1 => ?_
  obtain ⟨⟨f, rfl⟩, rfl⟩ := h1
  cases p with
  | false => exact hk
  | true =>
    refine wv_mono (h2 rfl).out fun n r1 h1 => ?_
    obtain ⟨rfl, rfl⟩ := h1
    exact hk⟩
theorem w_or2 (h1 : WE φ X a r fun x r1 => ∃ p f, x = .d (.bool p) f ∧ (p = true → k (.d (.bool true) false) r1) ∧ (p = false → WE φ X b r1 k)) : WE φ X (.or a b) r k := ⟨by
  have e : (evP φ (.or a b)).1 r = ((evP φ a).1 r).bind fun x r1 => (asBool x r1).bind fun k r2 => if k then .ok (.d (.bool true) false) r2 else (evP φ b).1 r2 := rfl
  rw [e, wv_bind]
  refine wv_mono h1.out fun x r1 h1 => ?_
  obtain ⟨p, f, rfl, h2, h3⟩ := h1
  cases p with
  | true => exact h2 rfl
  | false => exact (h3 rfl).out⟩
theorem w_and2 (h1 : WE φ X a r fun x r1 => ∃ p f, x = .d (.bool p) f ∧ (p = false → k (.d (.bool false) false) r1) ∧ (p = true → WE φ X b r1 k)) : WE φ X (.and a b) r k := ⟨by
  have e : (evP φ (.and a b)).1 r = ((evP φ a).1 r).bind fun x r1 => (asBool x r1).bind fun k r2 => if k then (evP φ b).1 r2 else .ok (.d (.bool false) false) r2 := rfl
  rw [e, wv_bind]
  refine wv_mono h1.out fun x r1 h1 => ?_
  obtain ⟨p, f, rfl, h2, h3⟩ := h1
  cases p with
  | false => exact h2 rfl
  | true => exact (h3 rfl).out⟩
theorem w_ite {p : Bool} {f : Bool} (h1 : WT φ X c r fun n r1 => n = p ∧ r1 = r) (h2 : p = true → WE φ X a r fun u r1 => u = .d x f ∧ r1 = r) (h3 : p = false → WE φ X b r fun u r1 => u = .d y f ∧ r1 = r) (hk : k (.d (if p then x else y) f) r) : WE φ X (.ite c a b) r k := ⟨by
  have e : (evP φ (.ite c a b)).1 r = ((evP φ c).2 r).bind fun k r1 => if k then (evP φ a).1 r1 else (evP φ b).1 r1 := rfl
  rw [e, wv_bind]
  refine wv_mono h1.out fun x r1 h1 => ?_
  obtain ⟨rfl, rfl⟩ := h1
  cases x with
  | true =>
    refine wv_mono (h2 rfl).out fun n r1 h1 => ?_
    obtain ⟨rfl, rfl⟩ := h1
    exact hk
  | false =>
    refine wv_mono (h3 rfl).out fun n r1 h1 => ?_
    obtain ⟨rfl, rfl⟩ := h1
    exact hk⟩
theorem w_ite2 (h1 : WT φ X c r fun n r1 => (n = true → WE φ X a r1 k) ∧ (n = false → WE φ X b r1 k)) : WE φ X (.ite c a b) r k := ⟨by
  have e : (evP φ (.ite c a b)).1 r = ((evP φ c).2 r).bind fun k r1 => if k then (evP φ a).1 r1 else (evP φ b).1 r1 := rfl
  rw [e, wv_bind]
  refine wv_mono h1.out fun x r1 h1 => ?_
  cases x with
  | true => exact (h1.1 rfl).out
  | false => exact (h1.2 rfl).out⟩
/-! ### comparisons -/
theorem w_cmp {o : Cp} (h : WE φ X a r fun x r1 => WE φ X b r1 fun y r2 => WV 8 (cpV o x y r2) X fun n r3 => k (.d (.bool n) false) r3) : WE φ X (.cmp o a b) r k := ⟨by
  have e : (evP φ (.cmp o a b)).1 r = ((evP φ a).1 r).bind fun x r1 => ((evP φ b).1 r1).bind fun y r2 => (cpV o x y r2).bind fun k r3 => .ok (.d (.bool k) false) r3 := rfl
  rw [e, wv_bind]
  refine wv_mono h.out fun x r1 h1 => ?_
  rw [wv_bind]
  refine wv_mono h1.out fun y r2 h2 => ?_
  rw [wv_bind]
  exact wv_mono h2.out fun n r3 h3 => h3⟩
theorem w_chain {o o' : Cp} {p q : Bool} {y : AV} (h : WE φ X a r fun x r1 => WE φ X b r1 fun z r2 => z = y ∧ WV 8 (cpV o x y r2) X fun n r3 => n = p ∧ r3 = r)
    (h2 : p = true → WE φ X c r fun z r1 => WV 8 (cpV o' y z r1) X fun n r3 => n = q ∧ r3 = r) (hk : k (.d (.bool (p && q)) false) r) : WE φ X (.chain o o' a b c) r k := ⟨by
  have e : (evP φ (.chain o o' a b c)).1 r = ((evP φ a).1 r).bind fun x r1 => ((evP φ b).1 r1).bind fun y r2 => (cpV o x y r2).bind fun k r3 =>
      if k then ((evP φ c).1 r3).bind fun z r4 => (cpV o' y z r4).bind fun k' r5 => .ok (.d (.bool k') false) r5
      else .ok (.d (.bool false) false) r3 := rfl
  rw [e, wv_bind]
  refine wv_mono h.out fun x r1 h1 => ?_
  rw [wv_bind]
  refine wv_mono h1.out fun z r2 h3 => ?_
  obtain ⟨rfl, h3⟩ := h3
  rw [wv_bind]
  refine wv_mono h3.out fun n r3 h4 => ?_
  obtain ⟨rfl, rfl⟩ := h4
  cases n with
  | false => exact hk
  | true =>
    show wv (((evP φ c).1 r3).bind _) X _
    rw [wv_bind]
    refine wv_mono (h2 rfl).out fun u r4 h5 => ?_
    rw [wv_bind]
    refine wv_mono h5.out fun n r5 h6 => ?_
    obtain ⟨rfl, rfl⟩ := h6
    exact hk⟩
def isTc : Cp → Bool
  | .inT => true
  | .ninT => true
  | _ => false
theorem w_cpv {k : Bool → Rho → Prop} {o : Cp} {u v : AV} {n : Bool} (ho : isTc o = false) (hx : rd r u = some x) (hy : rd r v = some y) (h : cpD o x y = some n) (hk : k n r) : WV 8 (cpV o u v r) X k := ⟨by
  have e : cpV o u v r = .ok n r := by
    cases o <;> first | (cases ho; done) | simp only [cpV, hx, hy, h]
  rw [e]; exact hk⟩
theorem w_cpt {k : Bool → Rho → Prop} {o : Cp} {u v : AV} {n : Bool} (ho : isTc o = true) (hx : rd r u = some x) (hy : rdr r v = some y) (h : cpD o x y = some n) (hk : k n r) : WV 8 (cpV o u v r) X k := ⟨by
  have e : cpV o u v r = .ok n r := by
    cases o <;> first | (cases ho; done) | simp only [cpV, hx, hy, h]
  rw [e]; exact hk⟩
theorem w_inR1 {neg : Bool} (h : WE φ X a r fun x r1 => WE φ X b r1 fun y r2 => WV 1 (op2v (inR1D neg) x y r2) X k) : WE φ X (.inR1 neg a b) r k := ⟨by
  have e : (evP φ (.inR1 neg a b)).1 r = ((evP φ a).1 r).bind fun x r1 => ((evP φ b).1 r1).bind fun y r2 => op2v (inR1D neg) x y r2 := rfl
  rw [e, wv_bind]
  refine wv_mono h.out fun x r1 h1 => ?_
  rw [wv_bind]
  exact wv_mono h1.out fun y r2 h2 => h2.out⟩
theorem w_inR2 {neg : Bool} (h : WE φ X a r fun x r1 => WE φ X b r1 fun y r2 => WE φ X c r2 fun z r3 => WV 15 (inR2V neg x y z r3) X k) : WE φ X (.inR2 neg a b c) r k := ⟨by
  have e : (evP φ (.inR2 neg a b c)).1 r = ((evP φ a).1 r).bind fun x r1 => ((evP φ b).1 r1).bind fun y r2 => ((evP φ c).1 r2).bind fun z r3 => inR2V neg x y z r3 := rfl
  rw [e, wv_bind]
  refine wv_mono h.out fun x r1 h1 => ?_
  rw [wv_bind]
  refine wv_mono h1.out fun y r2 h2 => ?_
  rw [wv_bind]
  exact wv_mono h2.out fun z r3 h3 => h3.out⟩
theorem w_inR2v {neg : Bool} {u v w : AV} {i p q : Int} (h1 : rd r u = some (.int i)) (h2 : rd r v = some (.int p)) (h3 : rd r w = some (.int q)) (hk : k (.d (inRD neg i p q) false) r) : WV 15 (inR2V neg u v w r) X k := ⟨by
  have e : inR2V neg u v w r = .ok (.d (inRD neg i p q) false) r := by simp only [inR2V, h1, h2, h3]
  rw [e]; exact hk⟩
theorem w_rng1 {t : Bool} (h : WE φ X a r fun x r1 => WV 2 (op1 (rng1D t) x r1) X k) : WE φ X (.rng1 t a) r k := ⟨by
  have e : (evP φ (.rng1 t a)).1 r = ((evP φ a).1 r).bind fun x r1 => op1 (rng1D t) x r1 := rfl
  rw [e, wv_bind]
  exact wv_mono h.out fun x r1 h1 => h1.out⟩
theorem w_rng2 {t : Bool} (h : WE φ X a r fun x r1 => WE φ X b r1 fun y r2 => WV 1 (op2v (rng2D t) x y r2) X k) : WE φ X (.rng2 t a b) r k := ⟨by
  have e : (evP φ (.rng2 t a b)).1 r = ((evP φ a).1 r).bind fun x r1 => ((evP φ b).1 r1).bind fun y r2 => op2v (rng2D t) x y r2 := rfl
  rw [e, wv_bind]
  refine wv_mono h.out fun x r1 h1 => ?_
  rw [wv_bind]
  exact wv_mono h1.out fun y r2 h2 => h2.out⟩
/-! ### several -/
theorem w_dsN {k : List D → Rho → Prop} (hk : k [] r) : WDs φ X .nil r k := ⟨hk⟩
theorem w_dsC {k : List D → Rho → Prop} (h : WD φ X e r fun x r1 => WDs φ X es r1 fun xs r2 => k (x :: xs) r2) : WDs φ X (.cons e es) r k := ⟨by
  have e : evDs φ (.cons e es) r = (dof (evP φ e).1 r).bind fun x r1 => (evDs φ es r1).bind fun xs r2 => .ok (x :: xs) r2 := rfl
  rw [e, wv_bind]
  refine wv_mono h.out fun x r1 h1 => ?_
  rw [wv_bind]
  exact wv_mono h1.out fun y r2 h2 => h2⟩
theorem w_asN {k : List AV → Rho → Prop} (hk : k [] r) : WAs φ X .nil r k := ⟨hk⟩
theorem w_asC {k : List AV → Rho → Prop} (h : WE φ X e r fun x r1 => WAs φ X es r1 fun xs r2 => k (unfr x :: xs) r2) : WAs φ X (.cons e es) r k := ⟨by
  have e : evAs φ (.cons e es) r = ((evP φ e).1 r).bind fun x r1 => (evAs φ es r1).bind fun xs r2 => .ok (unfr x :: xs) r2 := rfl
  rw [e, wv_bind]
  refine wv_mono h.out fun x r1 h1 => ?_
  rw [wv_bind]
  exact wv_mono h1.out fun y r2 h2 => h2⟩
theorem w_cN {k : Bool → Rho → Prop} (hk : k true r) : WC φ X .nil r k := ⟨hk⟩
theorem w_cC {k : Bool → Rho → Prop} (h : WT φ X e r k) : WC φ X (.cons e es) r k := ⟨h.out⟩
theorem w_tup (h : WDs φ X es r fun xs r1 => k (.d (.tuple xs) false) r1) : WE φ X (.tup es) r k := ⟨by
  have e : (evP φ (.tup es)).1 r = (evDs φ es r).bind fun xs r1 => .ok (.d (.tuple xs) false) r1 := rfl
  rw [e, wv_bind]
  exact wv_mono h.out fun x r1 h1 => h1⟩
theorem w_lst (h : WDs φ X es r fun xs r1 => k (.d (.list xs) true) r1) : WE φ X (.lst es) r k := ⟨by
  have e : (evP φ (.lst es)).1 r = (evDs φ es r).bind fun xs r1 => .ok (.d (.list xs) true) r1 := rfl
  rw [e, wv_bind]
  exact wv_mono h.out fun x r1 h1 => h1⟩
/-! ### methods -/
theorem w_mm {m : Mm} (ho : ownL r i = true) (h : WDs φ X es r fun ys r1 => WV 9 (mmV m i ys r1) X k) : WE φ X (.mm m i es) r k := ⟨by
  have e : (evP φ (.mm m i es)).1 r = if ownL r i then (evDs φ es r).bind fun ys r1 => mmV m i ys r1 else .stuck := rfl
  rw [e, if_pos ho, wv_bind]
  exact wv_mono h.out fun x r1 h1 => h1.out⟩
theorem w_mmv {m : Mm} {xs ys zs : List D} {mine : Bool} (h : r[i]? = some (some (.own (.lst xs) mine))) (h2 : mmD m xs ys = some (zs, y)) (hk : k (.d y false) (r.set i (some (.own (.lst zs) mine)))) : WV 9 (mmV m i ys r) X k := ⟨by
  have e : mmV m i ys r = .ok (.d y false) (r.set i (some (.own (.lst zs) mine))) := by simp only [mmV, h, h2]
  rw [e]; exact hk⟩
theorem w_td {m : Td} (ho : ownT r i = true) (h : WDs φ X es r fun ys r1 => WV 10 (tdV m i ys r1) X k) : WE φ X (.td m i es) r k := ⟨by
  have e : (evP φ (.td m i es)).1 r = if ownT r i then (evDs φ es r).bind fun ys r1 => tdV m i ys r1 else .stuck := rfl
  rw [e, if_pos ho, wv_bind]
  exact wv_mono h.out fun x r1 h1 => h1.out⟩
theorem w_tdv {m : Td} {ys : List D} {kvs : List (D × D)} {mine : Bool} (h : r[i]? = some (some (.own (.dt kvs) mine))) (h2 : tdD m kvs ys = some (y, f)) (hk : k (.d y f) r) : WV 10 (tdV m i ys r) X k := ⟨by
  have e : tdV m i ys r = .ok (.d y f) r := by simp only [tdV, h, h2]
  rw [e]; exact hk⟩
/-! ### calls -/
theorem w_call {n : Nat} (h : WAs φ X es r fun as r1 => WV 11 (callV (φ n) as r1) X k) : WE φ X (.call n es) r k := ⟨by
  have e : (evP φ (.call n es)).1 r = (evAs φ es r).bind fun as r1 => callV (φ n) as r1 := rfl
  rw [e, wv_bind]
  exact wv_mono h.out fun x r1 h1 => h1.out⟩
theorem w_cv {G : Sem} {as : List AV} {vs os : List SV} (h1 : argsV r as = some vs) (h2 : nodupN (lent r as) = true) (h3 : G vs = .ret x f os) (h4 : fits vs os = true) (hk : k (.d x f) (backC r as os)) : WV 11 (callV G as r) X k := ⟨by
  have e : callV G as r = .ok (.d x f) (backC r as os) := by simp only [callV, h1, h2, h3, h4, if_true]
  rw [e]; exact hk⟩
def noOwnV : List SV → Bool
  | [] => true
  | .own _ _ :: _ => false
  | _ :: vs => noOwnV vs
theorem fits_noOwn : ∀ vs : List SV, noOwnV vs = true → fits vs vs = true
  | [], _ => rfl
  | .d _ :: vs, h => fits_noOwn vs h
  | .ro _ :: vs, h => fits_noOwn vs h
theorem back_noOwn (r : Rho) : ∀ (as : List AV) (os : List SV), noOwnV os = true → backC r as os = r
  | [], _, _ => by simp [backC]
  | .var i :: as, [], _ => by simp [backC]
  | .d _ _ :: as, [], _ => by simp [backC]
  | .cst _ :: as, [], _ => by simp [backC]
  | .var i :: as, .d x :: os, h => by simp only [backC]; exact back_noOwn r as os h
  | .d _ _ :: as, .d x :: os, h => by simp only [backC]; exact back_noOwn r as os h
  | .cst _ :: as, .d x :: os, h => by simp only [backC]; exact back_noOwn r as os h
  | .var i :: as, .ro x :: os, h => by simp only [backC]; exact back_noOwn r as os h
  | .d _ _ :: as, .ro x :: os, h => by simp only [backC]; exact back_noOwn r as os h
  | .cst _ :: as, .ro x :: os, h => by simp only [backC]; exact back_noOwn r as os h
/-- a call that hands in nothing of its own -/
theorem w_cvp {G : Sem} {as : List AV} {vs : List SV} (h1 : argsV r as = some vs) (h2 : nodupN (lent r as) = true) (hn : noOwnV vs = true) (h3 : G vs = .ret x f vs) (hk : k (.d x f) r) : WV 11 (callV G as r) X k :=
  w_cv h1 h2 h3 (fits_noOwn vs hn) (by rw [back_noOwn r as vs hn]; exact hk)
/-- .. whose first operand alone is a variable's own -/
theorem w_cvo {G : Sem} {as : List AV} {vs : List SV} {o o' : Ob} {m : Bool} (h0 : r[i]? = some (some (.own o m))) (h1 : argsV r as = some vs) (hn : noOwnV vs = true) (hl : lent r as = []) (h3 : G (.own o false :: vs) = .ret x f (.own o' false :: vs)) (hk : k (.d x f) (r.set i (some (.own o' m)))) : WV 11 (callV G (.var i :: as) r) X k := by
  refine w_cv (vs := .own o false :: vs) (os := .own o' false :: vs) ?_ ?_ h3 ?_ ?_
  · simp only [argsV, argOf, h0, h1]
  · simp only [lent, lentOf, h0, hl, nodupN]; rfl
  · simp only [fits, fits_noOwn vs hn]
  · simp only [backC, h0, back_noOwn r as vs hn]; exact hk
theorem w_callF {n : Nat} {e : E} (h : WE φ X e r fun x r1 => WAs φ X es r1 fun as r2 => WV 15 (callFV (φ n) x as r2) X k) : WE φ X (.callF n e es) r k := ⟨by
  have q : (evP φ (.callF n e es)).1 r = ((evP φ e).1 r).bind fun x r1 => (evAs φ es r1).bind fun as r2 => callFV (φ n) x as r2 := rfl
  rw [q, wv_bind]
  refine wv_mono h.out fun x r1 h1 => ?_
  rw [wv_bind]
  exact wv_mono h1.out fun x r1 h1 => h1.out⟩
theorem argsV_app {z : Option SV} : ∀ {as : List AV} {vs : List SV}, argsV r as = some vs → argsV (r ++ [z]) as = some vs ∧ lent (r ++ [z]) as = lent r as
  | [], vs, h => ⟨h, rfl⟩
  | a :: as, vs, h => by
    obtain ⟨v, ws, rfl, h1, h2⟩ := argsV_cons h
    obtain ⟨i1, i2⟩ := argsV_app (z := z) h2
    have ge : ∀ i, a = .var i → (r ++ [z])[i]? = r[i]? := fun i e => by
      subst e
      by_cases hi : i < r.length
      · rw [List.getElem?_append_left hi]
      · exfalso
        have h1 : (match r[i]? with
          | some (some (.d x)) => some (.d x)
          | some (some (.own o _)) => some (.own o false)
          | some (some (.ro x)) => some (.ro x)
          | _ => none) = some v := h1
        rw [List.getElem?_eq_none (by omega)] at h1
        cases h1
    have e1 : argOf (r ++ [z]) a = some v := by
      rw [← h1]
      cases a with
      | var i => exact congrArg (fun (o : Option (Option SV)) => (match o with
          | some (some (.d x)) => some (SV.d x)
          | some (some (.own o _)) => some (SV.own o false)
          | some (some (.ro x)) => some (SV.ro x)
          | _ => none)) (ge i rfl)
      | d x f => cases f <;> rfl
      | cst x => rfl
    have e2 : lentOf (r ++ [z]) a = lentOf r a := by
      cases a with
      | var i => exact congrArg (fun (o : Option (Option SV)) => (match o with
          | some (some (.own _ _)) => [i]
          | _ => [])) (ge i rfl)
      | d x f => rfl
      | cst x => rfl
    refine ⟨?_, ?_⟩
    · simp only [argsV, e1, i1]
    · simp only [lent, e2, i2]
theorem w_cvF {G : Sem} {as : List AV} {vs : List SV} {xs : List D} {o' : Ob} (h1 : argsV r as = some vs) (hn : noOwnV vs = true) (hl : lent r as = []) (h3 : G (.own (.lst xs) false :: vs) = .ret x f (.own o' false :: vs)) (hk : k (.d x f) r) : WV 15 (callFV G (.d (.list xs) true) as r) X k := ⟨by
  obtain ⟨a1, a2⟩ := argsV_app (z := some (.own (.lst xs) true)) h1
  have h0 : (r ++ [some (SV.own (.lst xs) true)])[r.length]? = some (some (.own (.lst xs) true)) := by
    rw [List.getElem?_append_right (Nat.le_refl _)]; simp
  have e : callV G (.var r.length :: as) (r ++ [some (SV.own (.lst xs) true)]) = .ok (.d x f) ((r ++ [some (SV.own (.lst xs) true)]).set r.length (some (SV.own o' true))) := by
    have b1 : argsV (r ++ [some (.own (.lst xs) true)]) (.var r.length :: as) = some (.own (.lst xs) false :: vs) := by simp only [argsV, argOf, h0, a1]
    have b2 : nodupN (lent (r ++ [some (.own (.lst xs) true)]) (.var r.length :: as)) = true := by simp only [lent, lentOf, h0, a2, hl, nodupN]; rfl
    have b3 : fits (.own (.lst xs) false :: vs) (.own o' false :: vs) = true := by simp only [fits, fits_noOwn vs hn]
    simp only [callV, b1, b2, h3, b3, if_true]
    simp only [backC, h0, back_noOwn _ as vs hn]
  have q : callFV G (.d (.list xs) true) as r = .ok (.d x f) r := by
    unfold callFV
    dsimp only
    rw [e]
    dsimp only
    rw [List.set_append_right _ _ (Nat.le_refl _), List.take_left]
  rw [q]
  exact hk⟩
theorem w_draw {G : Sem} {ob : Ob} {m : Bool} {n : Int} (hd : IsDraw G) {p q s : Int} (h0 : r[i]? = some (some (.own (Pen p q s) m))) (hn : 0 < n) (hn2 : n < 10 ^ 80) (hk : ∀ w p' q' s' : Int, 0 ≤ w → w < n → k (.d (.int w) false) (r.set i (some (.own (Pen p' q' s') m)))) : WV 11 (callV G [.var i, .d (.int n) false] r) X k := by
  obtain ⟨w, p', q', s', w0, w1, e⟩ := hd p q s n hn hn2
  exact w_cvo h0 (vs := [.d (.int n)]) rfl rfl rfl e (hk w p' q' s' w0 w1)
end
end Ev
/-! .. comprehensions, statements, defs. -/
namespace Ev
open PySem
abbrev XF : XC := fun _ _ _ => False
theorem xf (c : Nat) (fs : List D) (r : Rho) : XF c fs r → False := id
/-! ### ranges -/
def irange (a b : Int) : List Int := (List.range (b - a).toNat).map fun (k : Nat) => a + (k : Int)
theorem rangeL_eq (a b : Int) : rangeL a b = dI (irange a b) := by simp [rangeL, irange, dI, List.map_map, Function.comp_def]
theorem mem_irange {a b i : Int} : i ∈ irange a b ↔ a ≤ i ∧ i < b := by
  simp only [irange, List.mem_map, List.mem_range]
  constructor
  · rintro ⟨k, h, rfl⟩; omega
  · intro h; exact ⟨(i - a).toNat, by omega, by omega⟩
theorem irange_len (a b : Int) : (irange a b).length = (b - a).toNat := by simp [irange]
theorem rangeD1 {b : Int} (h : b.natAbs ≤ 16777216) : rangeD [.int b] = some (dI (irange 0 b)) := by
  have e : rangeD [.int b] = if okI b then some (rangeL 0 b) else none := rfl
  rw [e, if_pos (show okI b = true from decide_eq_true h), rangeL_eq]
theorem rangeD2 {a b : Int} (h1 : a.natAbs ≤ 8000000) (h : b.natAbs ≤ 8000000) : rangeD [.int a, .int b] = some (dI (irange a b)) := by
  have e : rangeD [.int a, .int b] = if okI a && okI b && decide ((b - a).toNat ≤ line) then some (rangeL a b) else none := rfl
  rw [e, if_pos, rangeL_eq]
  rw [show okI a = true from decide_eq_true (by omega), show okI b = true from decide_eq_true (by omega), decide_eq_true (by unfold line; omega)]
  rfl
section
variable {φ : Phi} {X : XC} {a b c d e : E} {es : Es} {it : It} {r : Rho} {i j : Nat} {x y z : D} {f g : Bool}
/-! ### what is walked -/
theorem w_seq {k : List D × Option (Nat × D) → Rho → Prop} (h : WE φ X e r fun x r1 => WV 12 (walkV x r1) X k) : WIt φ X (.seq e) r k := ⟨by
  have q : evIt φ (.seq e) r = ((evP φ e).1 r).bind fun x r1 => walkV x r1 := rfl
  rw [q, wv_bind]
  exact wv_mono h.out fun x r1 h1 => h1.out⟩
theorem w_walk {k : List D × Option (Nat × D) → Rho → Prop} {xs : List D} (h : itemsD x = some xs) (hk : k (xs, none) r) : WV 12 (walkV (.d x f) r) X k := ⟨by
  have q : walkV (.d x f) r = .ok (xs, none) r := by
    unfold walkV
    show (match itemsD x with | some xs => R.ok (xs, walked r (.d x f)) r | none => .stuck) = _
    rw [h]; rfl
  rw [q]; exact hk⟩
theorem w_walkO {k : List D × Option (Nat × D) → Rho → Prop} {o : Ob} {m : Bool} {xs : List D} (h0 : r[i]? = some (some (.own o m))) (h1 : obR o = some (.list xs)) (hk : k (xs, some (i, obD o)) r) : WV 12 (walkV (.var i) r) X k := ⟨by
  have q : walkV (.var i) r = .ok (xs, some (i, obD o)) r := by
    unfold walkV
    have e1 : rd r (.var i) = some (.list xs) := by simp only [rd, h0, h1]
    have e2 : walked r (.var i) = some (i, obD o) := by simp only [walked, h0]
    rw [e1, e2]
    rfl
  rw [q]; exact hk⟩
theorem w_rng {k : List D × Option (Nat × D) → Rho → Prop} (h : WAs φ X es r fun as r1 => WV 13 (rangeV as r1) X k) : WIt φ X (.range es) r k := ⟨by
  have q : evIt φ (.range es) r = (evAs φ es r).bind fun as r1 => rangeV as r1 := rfl
  rw [q, wv_bind]
  exact wv_mono h.out fun x r1 h1 => h1.out⟩
theorem w_rngv {k : List D × Option (Nat × D) → Rho → Prop} {as : List AV} {ds xs : List D} (h1 : datAV as = some ds) (h : rangeD ds = some xs) (hk : k (xs, none) r) : WV 13 (rangeV as r) X k := ⟨by
  have q : rangeV as r = .ok (xs, none) r := by
    unfold rangeV
    rw [h1]
    show (match rangeD ds with | some xs => R.ok (xs, none) r | none => .stuck) = _
    rw [h]
  rw [q]; exact hk⟩
theorem w_enum {k : List D × Option (Nat × D) → Rho → Prop} (h : WE φ X e r fun x r1 => WV 14 (walkLV x r1) X fun q r2 => k (enumL 0 q.1, q.2) r2) : WIt φ X (.enum e) r k := ⟨by
  have q : evIt φ (.enum e) r = ((evP φ e).1 r).bind fun x r1 => (walkLV x r1).bind fun q r2 => .ok (enumL 0 q.1, q.2) r2 := rfl
  rw [q, wv_bind]
  refine wv_mono h.out fun x r1 h1 => ?_
  rw [wv_bind]
  exact wv_mono h1.out fun y r2 h2 => h2⟩
theorem w_walkL {k : List D × Option (Nat × D) → Rho → Prop} {xs : List D} (h : itemsL x = some xs) (hk : k (xs, none) r) : WV 14 (walkLV (.d x f) r) X k := ⟨by
  have q : walkLV (.d x f) r = .ok (xs, none) r := by
    unfold walkLV
    show (match itemsL x with | some xs => R.ok (xs, walked r (.d x f)) r | none => .stuck) = _
    rw [h]; rfl
  rw [q]; exact hk⟩
theorem w_seqF {k : List D → Rho → Prop} (h : WD φ X e r fun x r1 => ∃ xs, itemsD x = some xs ∧ k xs r1) : WItF φ X (.seq e) r k := ⟨by
  have q : evItF φ (.seq e) r = (evD φ e r).bind fun x r1 => R.opt (itemsD x) r1 := rfl
  rw [q, wv_bind]
  refine wv_mono h.out fun x r1 h1 => ?_
  obtain ⟨xs, e1, h2⟩ := h1
  rw [e1]
  exact h2⟩
theorem w_rngF {k : List D → Rho → Prop} (h : WAs φ X es r fun as r1 => ∃ ds xs, datAV as = some ds ∧ rangeD ds = some xs ∧ k xs r1) : WItF φ X (.range es) r k := ⟨by
  have q : evItF φ (.range es) r = (evAs φ es r).bind fun as r1 => (rangeV as r1).bind fun q r2 => .ok q.1 r2 := rfl
  rw [q, wv_bind]
  refine wv_mono h.out fun x r1 h1 => ?_
  obtain ⟨ds, xs, e1, e2, h2⟩ := h1
  rw [wv_bind]
  exact (w_rngv (X := X) (k := fun q r2 => k q.1 r2) e1 e2 h2).out⟩
theorem w_enumF {k : List D → Rho → Prop} (h : WD φ X e r fun x r1 => ∃ xs, itemsL x = some xs ∧ k (enumL 0 xs) r1) : WItF φ X (.enum e) r k := ⟨by
  have q : evItF φ (.enum e) r = (evD φ e r).bind fun x r1 => R.opt ((itemsL x).map (enumL 0)) r1 := rfl
  rw [q, wv_bind]
  refine wv_mono h.out fun x r1 h1 => ?_
  obtain ⟨xs, e1, h2⟩ := h1
  rw [e1]
  exact h2⟩
/-! ### comprehensions -/
structure WComp (φ : Phi) (X : XC) (tg : Tg) (cond : Es) (elt : E) (q : List D × Option (Nat × D)) (r1 : Rho) (k : AV → Rho → Prop) : Prop where
  out : noOwn r1 tg.slots = true ∧ q.1.length ≤ line ∧ wv (compL tg (evC φ cond) (dof (evP φ elt).1) q.2 q.1 (wipeR r1 tg.slots)) XF fun ys r2 => k (.d (.list ys) true) (backR r1 r2 tg.slots)
theorem w_comp {tg : Tg} {cond : Es} {elt : E} {k : AV → Rho → Prop} (h : WIt φ X it r fun q r1 => WComp φ X tg cond elt q r1 k) : WE φ X (.comp tg it cond elt) r k := ⟨by
  have q : (evP φ (.comp tg it cond elt)).1 r = (evIt φ it r).bind fun q r1 => if noOwn r1 tg.slots && decide (q.1.length ≤ line) then (compL tg (evC φ cond) (dof (evP φ elt).1) q.2 q.1 (wipeR r1 tg.slots)).bind fun ys r2 => .ok (.d (.list ys) true) (backR r1 r2 tg.slots) else .stuck := rfl
  rw [q, wv_bind]
  refine wv_mono h.out fun q r1 h1 => ?_
  obtain ⟨h1, h2, h3⟩ := h1.out
  rw [h1, decide_eq_true h2, Bool.and_self, if_pos rfl, wv_bind]
  cases e1 : compL tg (evC φ cond) (dof (evP φ elt).1) q.2 q.1 (wipeR r1 tg.slots) with
  | ok a s => rw [e1] at h3; exact h3
  | exc c fs s => rw [e1] at h3; exact h3.elim
  | stuck => rw [e1] at h3; exact h3⟩
/-- turn by turn: ys stand, rest is left -/
theorem compL_inv {α : Type} {tg : Tg} {cond : Es} {elt : E} {chk : Option (Nat × D)} {cc : α → D} (I : List D → List α → Rho → Prop) (hs : ∀ ys rest s, I ys rest s → stands chk s = true)
    (step : ∀ ys x rest s, I ys (x :: rest) s → ∃ s0, setT tg (cc x) s = some s0 ∧ WC φ XF cond s0 fun b s1 => (b = false → I ys rest (wipeR s1 tg.slots)) ∧ (b = true → WD φ XF elt s1 fun y s2 => I (ys ++ [y]) rest (wipeR s2 tg.slots))) :
    ∀ (rest : List α) (ys : List D) (s : Rho), I ys rest s → wv (compL tg (evC φ cond) (dof (evP φ elt).1) chk (rest.map cc) s) XF fun zs s' => I (ys ++ zs) [] s' := by
  intro rest
  induction rest with
  | nil =>
    intro ys s h
    unfold compL
    rw [List.map_nil]
    simp only [hs _ _ _ h, if_true]
    show I (ys ++ []) [] s
    rw [List.append_nil]; exact h
  | cons x rest ih =>
    intro ys s h
    obtain ⟨s0, e0, w⟩ := step ys x rest s h
    have hst := hs _ _ _ h
    rw [List.map_cons]
    unfold compL
    rw [if_pos hst, e0]
    dsimp only
    have w1 := w.out
    cases e1 : evC φ cond s0 with
    | stuck => rw [e1] at w1; exact w1.elim
    | exc c fs s => rw [e1] at w1; exact w1.elim
    | ok b s1 =>
      rw [e1] at w1
      obtain ⟨wf, wt⟩ := w1
      cases b with
      | false => exact ih ys _ (wf rfl)
      | true =>
        show wv ((nox (dof (evP φ elt).1 s1)).bind _) _ _
        have w2 := (wt rfl).out
        cases e2 : dof (evP φ elt).1 s1 with
        | stuck => rw [e2] at w2; exact w2.elim
        | exc c fs s => rw [e2] at w2; exact w2.elim
        | ok y s2 =>
          rw [e2] at w2
          show wv ((compL tg (evC φ cond) (dof (evP φ elt).1) chk (rest.map cc) (wipeR s2 tg.slots)).bind _) _ _
          rw [wv_bind]
          refine wv_mono (ih _ _ w2) fun zs s' h' => ?_
          show I (ys ++ y :: zs) [] s'
          rw [show ys ++ y :: zs = ys ++ [y] ++ zs from by simp]
          exact h'
theorem w_compI {α : Type} {tg : Tg} {cond : Es} {elt : E} {k : AV → Rho → Prop} {cc : α → D} {xs : List α} {ds : List D} {chk : Option (Nat × D)} (hd : ds = xs.map cc) (I : List D → List α → Rho → Prop) (hn : noOwn r tg.slots = true) (hl : xs.length ≤ line)
    (h0 : I [] xs (wipeR r tg.slots)) (hs : ∀ ys rest s, I ys rest s → stands chk s = true)
    (step : ∀ ys x rest s, I ys (x :: rest) s → ∃ s0, setT tg (cc x) s = some s0 ∧ WC φ XF cond s0 fun b s1 => (b = false → I ys rest (wipeR s1 tg.slots)) ∧ (b = true → WD φ XF elt s1 fun y s2 => I (ys ++ [y]) rest (wipeR s2 tg.slots)))
    (hk : ∀ ys s, I ys [] s → k (.d (.list ys) true) (backR r s tg.slots)) : WComp φ X tg cond elt (ds, chk) r k := ⟨by
  subst hd
  exact ⟨hn, by rw [List.length_map]; exact hl, wv_mono (compL_inv I hs step xs [] _ h0) fun ys s h => hk ys s h⟩⟩
theorem back_wipe1 {r : Rho} {i : Nat} (h : noOwn r [i] = true) : backR r (wipeR r [i]) [i] = r := by
  show (r.set i none).set i ((r[i]?).getD none) = r
  rw [List.set_set]
  cases e : r[i]? with
  | none => simp [noOwn, e] at h
  | some v =>
    apply List.ext_getElem?
    intro j
    by_cases e2 : i = j
    · subst e2
      rw [List.getElem?_set_self (List.getElem?_eq_some_iff.mp e).1, e]; rfl
    · rw [List.getElem?_set_ne e2]
theorem back_wipe2 {r : Rho} {i j : Nat} (h : noOwn r [i, j] = true) : backR r (wipeR r [i, j]) [i, j] = r := by
  show ((((r.set j none).set i none).set j ((r[j]?).getD none)).set i ((r[i]?).getD none)) = r
  apply List.ext_getElem?
  intro n
  cases ei : r[i]? with
  | none => simp [noOwn, ei] at h
  | some v =>
    cases ej : r[j]? with
    | none => simp [noOwn, ei, ej] at h
    | some w =>
      have hi := (List.getElem?_eq_some_iff.mp ei).1
      have hj := (List.getElem?_eq_some_iff.mp ej).1
      by_cases e1 : i = n
      · subst e1
        rw [List.getElem?_set_self (by simpa using hi), ei]; rfl
      · rw [List.getElem?_set_ne e1]
        by_cases e2 : j = n
        · subst e2
          rw [List.getElem?_set_self (by simpa using hj), ej]; rfl
        · rw [List.getElem?_set_ne e2, List.getElem?_set_ne e1, List.getElem?_set_ne e2]
/-- nothing changes: filtered and mapped -/
theorem w_comp1 {α : Type} {cond : Es} {elt : E} {k : AV → Rho → Prop} {cc : α → D} {xs : List α} {ds : List D} {chk : Option (Nat × D)} {p : α → Bool} {g : α → D} (hd : ds = xs.map cc) (hn : noOwn r [i] = true) (hl : xs.length ≤ line) (hs : stands chk (r.set i none) = true)
    (hc : ∀ x ∈ xs, WC φ XF cond (r.set i (some (.d (cc x)))) fun b s => b = p x ∧ s = r.set i (some (.d (cc x))))
    (he : ∀ x ∈ xs, p x = true → WD φ XF elt (r.set i (some (.d (cc x)))) fun y s => y = g x ∧ s = r.set i (some (.d (cc x))))
    (hk : k (.d (.list ((xs.filter p).map g)) true) r) : WComp φ X (.one i) cond elt (ds, chk) r k := by
  refine w_compI hd (fun ys rest s => s = r.set i none ∧ (∀ x ∈ rest, x ∈ xs) ∧ ys ++ (rest.filter p).map g = (xs.filter p).map g) hn hl ⟨rfl, fun x h => h, rfl⟩ (fun ys rest s h => by rw [h.1]; exact hs) ?_ ?_
  · rintro ys x rest s ⟨rfl, hm, e⟩
    refine ⟨r.set i (some (.d (cc x))), by simp only [setT, List.set_set], ⟨wv_mono (hc x (hm x (List.mem_cons_self ..))).out fun b s1 h => ?_⟩⟩
    obtain ⟨rfl, rfl⟩ := h
    have e3 : wipeR (r.set i (some (SV.d (cc x)))) (Tg.one i).slots = r.set i none := by simp only [Tg.slots, wipeR, List.set_set]
    refine ⟨fun hp => ⟨e3, fun y hy => hm y (List.mem_cons_of_mem _ hy), ?_⟩, fun hp => ⟨wv_mono (he x (hm x (List.mem_cons_self ..)) hp).out fun y s2 h => ?_⟩⟩
    · rw [← e, List.filter_cons_of_neg (by simp [hp])]
    · obtain ⟨rfl, rfl⟩ := h
      refine ⟨e3, fun y hy => hm y (List.mem_cons_of_mem _ hy), ?_⟩
      rw [← e, List.filter_cons_of_pos hp, List.map_cons, List.append_assoc]; rfl
  · rintro ys s ⟨rfl, _, e⟩
    have e4 : backR r (r.set i none) (Tg.one i).slots = r := back_wipe1 hn
    rw [e4]
    simp only [List.filter_nil, List.map_nil, List.append_nil] at e
    rw [e]; exact hk
theorem w_comp1n {α : Type} {elt : E} {k : AV → Rho → Prop} {cc : α → D} {xs : List α} {ds : List D} {chk : Option (Nat × D)} {g : α → D} (hd : ds = xs.map cc) (hn : noOwn r [i] = true) (hl : xs.length ≤ line) (hs : stands chk (r.set i none) = true)
    (he : ∀ x ∈ xs, WD φ XF elt (r.set i (some (.d (cc x)))) fun y s => y = g x ∧ s = r.set i (some (.d (cc x))))
    (hk : k (.d (.list (xs.map g)) true) r) : WComp φ X (.one i) .nil elt (ds, chk) r k :=
  w_comp1 (p := fun _ => true) hd hn hl hs (fun x _ => w_cN ⟨rfl, rfl⟩) (fun x hx _ => he x hx) (by rw [List.filter_eq_self.mpr (fun _ _ => rfl)]; exact hk)
theorem w_comp2 {α : Type} {cond : Es} {elt : E} {k : AV → Rho → Prop} {c1 c2 : α → D} {xs : List α} {ds : List D} {chk : Option (Nat × D)} {p : α → Bool} {g : α → D} (hd : ds = xs.map fun x => .tuple [c1 x, c2 x]) (hij : i ≠ j) (hn : noOwn r [i, j] = true) (hl : xs.length ≤ line) (hs : stands chk ((r.set j none).set i none) = true)
    (hc : ∀ x ∈ xs, WC φ XF cond ((r.set i (some (.d (c1 x)))).set j (some (.d (c2 x)))) fun b s => b = p x ∧ s = (r.set i (some (.d (c1 x)))).set j (some (.d (c2 x))))
    (he : ∀ x ∈ xs, p x = true → WD φ XF elt ((r.set i (some (.d (c1 x)))).set j (some (.d (c2 x)))) fun y s => y = g x ∧ s = (r.set i (some (.d (c1 x)))).set j (some (.d (c2 x))))
    (hk : k (.d (.list ((xs.filter p).map g)) true) r) : WComp φ X (.two i j) cond elt (ds, chk) r k := by
  refine w_compI hd (fun ys rest s => s = (r.set j none).set i none ∧ (∀ x ∈ rest, x ∈ xs) ∧ ys ++ (rest.filter p).map g = (xs.filter p).map g) hn hl ⟨rfl, fun x h => h, rfl⟩ (fun ys rest s h => by rw [h.1]; exact hs) ?_ ?_
  · rintro ys x rest s ⟨rfl, hm, e⟩
    refine ⟨(r.set i (some (.d (c1 x)))).set j (some (.d (c2 x))), ?_, ⟨wv_mono (hc x (hm x (List.mem_cons_self ..))).out fun b s1 h => ?_⟩⟩
    · simp only [setT, List.set_set]
      rw [List.set_comm _ _ hij, List.set_set, List.set_comm _ _ (Ne.symm hij)]
    obtain ⟨rfl, rfl⟩ := h
    have e3 : wipeR ((r.set i (some (SV.d (c1 x)))).set j (some (SV.d (c2 x)))) (Tg.two i j).slots = (r.set j none).set i none := by
      simp only [Tg.slots, wipeR, List.set_set]
      rw [List.set_comm _ _ hij, List.set_set, List.set_comm _ _ (Ne.symm hij), List.set_comm _ _ hij]
    refine ⟨fun hp => ⟨e3, fun y hy => hm y (List.mem_cons_of_mem _ hy), ?_⟩, fun hp => ⟨wv_mono (he x (hm x (List.mem_cons_self ..)) hp).out fun y s2 h => ?_⟩⟩
    · rw [← e, List.filter_cons_of_neg (by simp [hp])]
    · obtain ⟨rfl, rfl⟩ := h
      refine ⟨e3, fun y hy => hm y (List.mem_cons_of_mem _ hy), ?_⟩
      rw [← e, List.filter_cons_of_pos hp, List.map_cons, List.append_assoc]; rfl
  · rintro ys s ⟨rfl, _, e⟩
    have e4 : backR r ((r.set j none).set i none) (Tg.two i j).slots = r := back_wipe2 hn
    rw [e4]
    simp only [List.filter_nil, List.map_nil, List.append_nil] at e
    rw [e]; exact hk
theorem w_comp2n {α : Type} {elt : E} {k : AV → Rho → Prop} {c1 c2 : α → D} {xs : List α} {ds : List D} {chk : Option (Nat × D)} {g : α → D} (hd : ds = xs.map fun x => .tuple [c1 x, c2 x]) (hij : i ≠ j) (hn : noOwn r [i, j] = true) (hl : xs.length ≤ line) (hs : stands chk ((r.set j none).set i none) = true)
    (he : ∀ x ∈ xs, WD φ XF elt ((r.set i (some (.d (c1 x)))).set j (some (.d (c2 x)))) fun y s => y = g x ∧ s = (r.set i (some (.d (c1 x)))).set j (some (.d (c2 x))))
    (hk : k (.d (.list (xs.map g)) true) r) : WComp φ X (.two i j) .nil elt (ds, chk) r k :=
  w_comp2 (p := fun _ => true) hd hij hn hl hs (fun x _ => w_cN ⟨rfl, rfl⟩) (fun x hx _ => he x hx) (by rw [List.filter_eq_self.mpr (fun _ _ => rfl)]; exact hk)
end
/-! ### statements -/
def wq (s : SR) (Q : SR → Prop) : Prop := match s with
  | .stuck => False
  | s => Q s
def exq (Q : SR → Prop) : XC := fun c fs r => Q (.exc c fs r)
structure WSs (φ : Phi) (ss : Ss) (r : Rho) (Q : SR → Prop) : Prop where
  out : wq (evSs φ ss r) Q
theorem wq_st {α : Type} {x : R α} {F : α → Rho → SR} {Q : SR → Prop} {G : SR → SR} (hG : ∀ c fs r, G (.exc c fs r) = .exc c fs r) (hs : G .stuck = .stuck) (h : wv x (exq Q) fun a r => wq (G (F a r)) Q) : wq (G (stR x F)) Q := by
  cases x with
  | ok a r => exact h
  | exc c fs r => show wq (G (.exc c fs r)) Q; rw [hG]; exact h
  | stuck => exact h.elim
def thn (φ : Phi) (ss : Ss) (q : SR) : SR := match q with
  | .next r1 => evSs φ ss r1
  | q => q
theorem evSs_cons (φ : Phi) (s : S) (ss : Ss) (r : Rho) : evSs φ (.cons s ss) r = thn φ ss (evS φ s r) := by
  show _ = thn φ ss (evS φ s r)
  rfl
def Ss.app : Ss → Ss → Ss
  | .nil, t => t
  | .cons s ss, t => .cons s (ss.app t)
theorem thn_app (φ : Phi) (t : Ss) : ∀ (s : Ss) (r : Rho), thn φ t (evSs φ s r) = evSs φ (s.app t) r
  | .nil, r => rfl
  | .cons s ss, r => by
    rw [evSs_cons]
    show _ = evSs φ (.cons s (ss.app t)) r
    rw [evSs_cons]
    cases e : evS φ s r with
    | next r1 => exact thn_app φ t ss r1
    | ret d fr r1 => rfl
    | exc c fs r1 => rfl
    | stuck => rfl
section
variable {φ : Phi} {a b c e : E} {it : It} {ss t u : Ss} {r : Rho} {Q : SR → Prop} {i j : Nat} {x y z : D} {f g : Bool}
theorem ws_nil (h : Q (.next r)) : WSs φ .nil r Q := ⟨h⟩
theorem ws_asg (h : WD φ (exq Q) e r fun x r1 => WSs φ ss (r1.set i (some (.d x))) Q) : WSs φ (.cons (.asg i e) ss) r Q := ⟨by
  rw [evSs_cons]
  exact wq_st (F := fun x r1 => .next (r1.set i (some (.d x)))) (G := thn φ ss) (fun _ _ _ => rfl) rfl (wv_mono h.out fun x r1 h1 => h1.out)⟩
structure WAsg (i : Nat) (x : AV) (r : Rho) (k : Rho → Prop) : Prop where
  out : ∃ r', asgV i x r = .next r' ∧ k r'
theorem w_asgL {k : Rho → Prop} {xs : List D} (h : k (r.set i (some (.own (.lst xs) true)))) : WAsg i (.d (.list xs) true) r k := ⟨_, rfl, h⟩
theorem w_asgD {k : Rho → Prop} {xs : List (D × D)} (h : k (r.set i (some (.own (.dk xs) true)))) : WAsg i (.d (.dict xs) true) r k := ⟨_, rfl, h⟩
theorem ws_asgO (h : WE φ (exq Q) e r fun x r1 => WAsg i x r1 fun r2 => WSs φ ss r2 Q) : WSs φ (.cons (.asgO i e) ss) r Q := ⟨by
  rw [evSs_cons]
  refine wq_st (F := fun x r1 => asgV i x r1) (G := thn φ ss) (fun _ _ _ => rfl) rfl (wv_mono h.out fun x r1 h1 => ?_)
  obtain ⟨r', e1, h2⟩ := h1.out
  rw [e1]; exact h2.out⟩
theorem ws_asgT (h : WSs φ ss (r.set i (some (.own (.dt []) true))) Q) : WSs φ (.cons (.asgT i) ss) r Q := ⟨by
  rw [evSs_cons]; exact h.out⟩
theorem ws_unp (h : WE φ (exq Q) e r fun x r1 => ∃ u v, rd r1 x = some (.tuple [u, v]) ∧ WSs φ ss ((r1.set i (some (.d u))).set j (some (.d v))) Q) : WSs φ (.cons (.unp i j e) ss) r Q := ⟨by
  rw [evSs_cons]
  refine wq_st (F := fun x r1 => unpV i j x r1) (G := thn φ ss) (fun _ _ _ => rfl) rfl (wv_mono h.out fun x r1 h1 => ?_)
  obtain ⟨u, v, e1, h2⟩ := h1
  have e2 : unpV i j x r1 = .next ((r1.set i (some (.d u))).set j (some (.d v))) := by simp only [unpV, e1]
  rw [e2]; exact h2.out⟩
theorem ws_par (h : WD φ (exq Q) a r fun x r1 => WD φ (exq Q) b r1 fun y r2 => WSs φ ss ((r2.set i (some (.d x))).set j (some (.d y))) Q) : WSs φ (.cons (.par i j a b) ss) r Q := ⟨by
  rw [evSs_cons]
  refine wq_st (F := fun x r1 => stR (evD φ b r1) fun y r2 => .next ((r2.set i (some (.d x))).set j (some (.d y)))) (G := thn φ ss) (fun _ _ _ => rfl) rfl (wv_mono h.out fun x r1 h1 => ?_)
  exact wq_st (F := fun y r2 => .next ((r2.set i (some (.d x))).set j (some (.d y)))) (G := thn φ ss) (fun _ _ _ => rfl) rfl (wv_mono h1.out fun y r2 h2 => h2.out)⟩
/-- a step of a statement; t tells which -/
structure WK (t : Nat) (s : SR) (k : Rho → Prop) : Prop where
  out : ∃ r', s = .next r' ∧ k r'
theorem ws_set (h : WD φ (exq Q) e r fun x r1 => ownA r1 i = true ∧ WE φ (exq Q) a r1 fun y r2 => WK 1 (setV i x y r2) fun r3 => WSs φ ss r3 Q) : WSs φ (.cons (.set i a e) ss) r Q := ⟨by
  rw [evSs_cons]
  refine wq_st (F := fun x r1 => if ownA r1 i then stR (evE φ a r1) fun y r2 => setV i x y r2 else .stuck) (G := thn φ ss) (fun _ _ _ => rfl) rfl (wv_mono h.out fun x r1 h1 => ?_)
  rw [if_pos h1.1]
  refine wq_st (F := fun y r2 => setV i x y r2) (G := thn φ ss) (fun _ _ _ => rfl) rfl (wv_mono h1.2.out fun y r2 h2 => ?_)
  obtain ⟨r', e1, h3⟩ := h2.out
  rw [e1]; exact h3.out⟩
theorem w_setv {k : Rho → Prop} {xs : List D} {m : Bool} {n : Int} {l : Nat} (h : r[i]? = some (some (.own (.lst xs) m))) (h2 : L2.ixN xs.length n = some l) (hk : k (r.set i (some (.own (.lst (xs.set l x)) m)))) : WK 1 (setV i x (.d (.int n) f) r) k :=
  ⟨_, by simp only [setV, h, h2], hk⟩
theorem ws_dset (h : WD φ (exq Q) e r fun x r1 => ownA r1 i = true ∧ WD φ (exq Q) a r1 fun y r2 => WK 2 (dsetV i x y r2) fun r3 => WSs φ ss r3 Q) : WSs φ (.cons (.dset i a e) ss) r Q := ⟨by
  rw [evSs_cons]
  refine wq_st (F := fun x r1 => if ownA r1 i then stR (evD φ a r1) fun y r2 => dsetV i x y r2 else .stuck) (G := thn φ ss) (fun _ _ _ => rfl) rfl (wv_mono h.out fun x r1 h1 => ?_)
  rw [if_pos h1.1]
  refine wq_st (F := fun y r2 => dsetV i x y r2) (G := thn φ ss) (fun _ _ _ => rfl) rfl (wv_mono h1.2.out fun y r2 h2 => ?_)
  obtain ⟨r', e1, h3⟩ := h2.out
  rw [e1]; exact h3.out⟩
theorem w_dsetK {k : Rho → Prop} {kvs : List (D × D)} {m : Bool} (h : r[i]? = some (some (.own (.dk kvs) m))) (h2 : kvs.length < line) (h3 : isKey y = true) (hk : k (r.set i (some (.own (.dk (dput y x kvs)) m)))) : WK 2 (dsetV i x y r) k :=
  ⟨_, by simp only [dsetV, h, decide_eq_true h2, h3]; rfl, hk⟩
theorem w_dsetT {k : Rho → Prop} {kvs : List (D × D)} {m : Bool} (h : r[i]? = some (some (.own (.dt kvs) m))) (h2 : kvs.length < line) (h3 : keyT y = true) (hk : k (r.set i (some (.own (.dt (dput y x kvs)) m)))) : WK 2 (dsetV i x y r) k :=
  ⟨_, by simp only [dsetV, h, decide_eq_true h2, h3]; rfl, hk⟩
theorem ws_aug {o : Op2} {n : Int} (h0 : r[i]? = some (some (.d (.int n)))) (h : WE φ (exq Q) e r fun y r1 => ∃ m f z f', y = .d (.int m) f ∧ op2D o (.int n) (.int m) = some (z, f') ∧ WSs φ ss (r1.set i (some (.d z))) Q) : WSs φ (.cons (.aug i o e) ss) r Q := ⟨by
  rw [evSs_cons]
  have e1 : evS φ (.aug i o e) r = stR (evE φ e r) fun y r1 => augV o i n y r1 := by simp only [evS, h0]
  rw [e1]
  refine wq_st (F := fun y r1 => augV o i n y r1) (G := thn φ ss) (fun _ _ _ => rfl) rfl (wv_mono h.out fun y r1 h1 => ?_)
  obtain ⟨m, f, z, f', rfl, e2, h2⟩ := h1
  have e3 : augV o i n (.d (.int m) f) r1 = .next (r1.set i (some (.d z))) := by simp only [augV, e2]
  rw [e3]; exact h2.out⟩
theorem ws_iff (h : WT φ (exq Q) c r fun b r1 => (b = true → WSs φ (t.app ss) r1 Q) ∧ (b = false → WSs φ (u.app ss) r1 Q)) : WSs φ (.cons (.iff c t u) ss) r Q := ⟨by
  rw [evSs_cons]
  refine wq_st (F := fun k r1 => if k then evSs φ t r1 else evSs φ u r1) (G := thn φ ss) (fun _ _ _ => rfl) rfl (wv_mono h.out fun b r1 h1 => ?_)
  cases b with
  | true => show wq (thn φ ss (evSs φ t r1)) Q; rw [thn_app]; exact (h1.1 rfl).out
  | false => show wq (thn φ ss (evSs φ u r1)) Q; rw [thn_app]; exact (h1.2 rfl).out⟩
theorem ws_expr (h : WE φ (exq Q) e r fun _ r1 => WSs φ ss r1 Q) : WSs φ (.cons (.expr e) ss) r Q := ⟨by
  rw [evSs_cons]
  exact wq_st (F := fun _ r1 => .next r1) (G := thn φ ss) (fun _ _ _ => rfl) rfl (wv_mono h.out fun x r1 h1 => h1.out)⟩
theorem ws_pass (h : WSs φ ss r Q) : WSs φ (.cons .pass ss) r Q := ⟨h.out⟩
structure WRet (x : AV) (r : Rho) (Q : SR → Prop) : Prop where
  out : wq (retV x r) Q
theorem ws_ret (h : WE φ (exq Q) e r fun x r1 => WRet x r1 Q) : WSs φ (.cons (.ret e) ss) r Q := ⟨by
  rw [evSs_cons]
  refine wq_st (F := fun x r1 => retV x r1) (G := thn φ ss) (fun _ _ _ => rfl) rfl (wv_mono h.out fun x r1 h1 => ?_)
  have h2 := h1.out
  cases e1 : retV x r1 with
  | next r' => 
    exfalso
    cases x with
    | d x fr => cases e1
    | cst x => cases e1
    | var n =>
      simp only [retV] at e1
      split at e1 <;> cases e1
  | ret d fr r' => rw [e1] at h2; exact h2
  | exc c fs r' => rw [e1] at h2; exact h2
  | stuck => rw [e1] at h2; exact h2⟩
theorem w_retD (h : Q (.ret x f r)) : WRet (.d x f) r Q := ⟨h⟩
theorem w_retL {xs : List D} (h0 : r[i]? = some (some (.own (.lst xs) true))) (h : Q (.ret (.list xs) true (r.set i none))) : WRet (.var i) r Q := ⟨by
  have e : retV (.var i) r = .ret (.list xs) true (r.set i none) := by simp only [retV, h0]
  rw [e]; exact h⟩
theorem w_retK {xs : List (D × D)} (h0 : r[i]? = some (some (.own (.dk xs) true))) (h : Q (.ret (.dict xs) true (r.set i none))) : WRet (.var i) r Q := ⟨by
  have e : retV (.var i) r = .ret (.dict xs) true (r.set i none) := by simp only [retV, h0]
  rw [e]; exact h⟩
/-! ### loops -/
structure WFor (φ : Phi) (tg : Tg) (b : Ss) (xs : List D) (r : Rho) (ss : Ss) (Q : SR → Prop) : Prop where
  out : wq (thn φ ss (forL tg (evSs φ b) xs r)) Q
theorem ws_for {tg : Tg} {b : Ss} (h : WItF φ (exq Q) it r fun xs r1 => WFor φ tg b xs r1 ss Q) : WSs φ (.cons (.for_ tg it b) ss) r Q := ⟨by
  rw [evSs_cons]
  exact wq_st (F := fun xs r1 => forL tg (evSs φ b) xs r1) (G := thn φ ss) (fun _ _ _ => rfl) rfl (wv_mono h.out fun x r1 h1 => h1.out)⟩
/-- what a loop's turn must keep -/
inductive Nx (N : Rho → Prop) (Q : SR → Prop) : SR → Prop
  | next {r : Rho} (h : N r) : Nx N Q (.next r)
  | ret {d : D} {fr : Bool} {r : Rho} (h : Q (.ret d fr r)) : Nx N Q (.ret d fr r)
  | exc {c : Nat} {fs : List D} {r : Rho} (h : Q (.exc c fs r)) : Nx N Q (.exc c fs r)
abbrev nxq (N : Rho → Prop) (Q : SR → Prop) : SR → Prop := Nx N Q
theorem for_nil {tg : Tg} {b : Ss} (h : WSs φ ss r Q) : WFor φ tg b [] r ss Q := ⟨h.out⟩
theorem wq_nxq {s : SR} {G : SR → SR} {N : Rho → Prop} (h : wq s (nxq N Q)) (hn : ∀ r, N r → wq (G (.next r)) Q) (ho : ∀ d fr r, G (.ret d fr r) = .ret d fr r) (he : ∀ c fs r, G (.exc c fs r) = .exc c fs r) : wq (G s) Q := by
  cases s with
  | next r => cases h with | next h => exact hn r h
  | ret d fr r => rw [ho]; cases h with | ret h => exact h
  | exc c fs r => rw [he]; cases h with | exc h => exact h
  | stuck => exact h.elim
def forK (φ : Phi) (tg : Tg) (b : Ss) (xs : List D) (q : SR) : SR := match q with
  | .next r2 => forL tg (evSs φ b) xs r2
  | s => s
theorem forL_cons {tg : Tg} {b : Ss} {xs : List D} {r0 : Rho} (h0 : setT tg x r = some r0) : forL tg (evSs φ b) (x :: xs) r = forK φ tg b xs (evSs φ b r0) := by
  have e : forL tg (evSs φ b) (x :: xs) r = (match setT tg x r with
    | some r1 => forK φ tg b xs (evSs φ b r1)
    | none => .stuck) := rfl
  rw [e, h0]
theorem for_cons {tg : Tg} {b : Ss} {xs : List D} {r0 : Rho} (h0 : setT tg x r = some r0) (h : WSs φ b r0 (nxq (fun r1 => WFor φ tg b xs r1 ss Q) Q)) : WFor φ tg b (x :: xs) r ss Q := ⟨by
  rw [forL_cons h0]
  exact wq_nxq (G := fun s => thn φ ss (forK φ tg b xs s)) h.out (fun r h => h.out) (fun _ _ _ => rfl) (fun _ _ _ => rfl)⟩
theorem ws_nx {b : Ss} {N N' : Rho → Prop} (w : WSs φ b r (nxq N Q)) (h : ∀ r, N r → N' r) : WSs φ b r (nxq N' Q) := ⟨by
  have w1 := w.out
  cases e1 : evSs φ b r with
  | next r => rw [e1] at w1; cases w1 with | next w1 => exact Nx.next (h _ w1)
  | ret d fr r => rw [e1] at w1; cases w1 with | ret w1 => exact Nx.ret w1
  | exc c fs r => rw [e1] at w1; cases w1 with | exc w1 => exact Nx.exc w1
  | stuck => rw [e1] at w1; exact w1⟩
/-- turn by turn: done, rest -/
theorem for_inv {α : Type} {tg : Tg} {b : Ss} {cc : α → D} {xs : List α} {ds : List D} (hd : ds = xs.map cc) (I : List α → List α → Rho → Prop) (h0 : I [] xs r)
    (step : ∀ done x rest s, xs = done ++ x :: rest → I done (x :: rest) s → ∃ s0, setT tg (cc x) s = some s0 ∧ WSs φ b s0 (nxq (I (done ++ [x]) rest) Q)) (hk : ∀ s, I xs [] s → WSs φ ss s Q) : WFor φ tg b ds r ss Q := by
  subst hd
  have go : ∀ (rest done : List α) (s : Rho), xs = done ++ rest → I done rest s → WFor φ tg b (rest.map cc) s ss Q := by
    intro rest
    induction rest with
    | nil =>
      intro done s e h
      rw [List.append_nil] at e
      subst e
      exact for_nil (hk s h)
    | cons x rest ih =>
      intro done s e h
      obtain ⟨s0, e0, w⟩ := step done x rest s e h
      exact for_cons e0 (ws_nx w fun r h => ih (done ++ [x]) r (by rw [e]; simp) h)
  exact go xs [] r rfl h0
structure WWhile (φ : Phi) (c : E) (b : Ss) (n : Nat) (r : Rho) (ss : Ss) (Q : SR → Prop) : Prop where
  out : wq (thn φ ss (whileN (evT φ c) (evSs φ b) n r)) Q
theorem ws_while {n : Nat} {b : Ss} (h : WWhile φ c b n r ss Q) : WSs φ (.cons (.while_ n c b) ss) r Q := ⟨by
  rw [evSs_cons]
  exact h.out⟩
/-- k: the fuel that is left at least -/
theorem while_inv {n : Nat} {b : Ss} (I : Nat → Rho → Prop) (k : Nat) (hk : k < n) (h0 : I k r)
    (step : ∀ m s, I m s → WT φ (exq Q) c s fun p s1 => (p = false → WSs φ ss s1 Q) ∧ (p = true → WSs φ b s1 (nxq (fun s2 => ∃ m', m' < m ∧ I m' s2) Q))) : WWhile φ c b n r ss Q := by
  have go : ∀ (k n : Nat) (r : Rho), k < n → I k r → WWhile φ c b n r ss Q := by
    intro k
    induction k using Nat.strongRecOn with
    | _ k ih =>
      intro n r hkn hI
      cases n with
      | zero => omega
      | succ n =>
        refine ⟨?_⟩
        have w := (step k r hI).out
        have e1 : whileN (evT φ c) (evSs φ b) (n + 1) r = (match (evP φ c).2 r with
          | .ok true r1 => (match evSs φ b r1 with
            | .next r2 => whileN (evT φ c) (evSs φ b) n r2
            | s => s)
          | .ok false r1 => .next r1
          | .exc k fs r1 => .exc k fs r1
          | .stuck => .stuck) := rfl
        rw [e1]
        cases e2 : (evP φ c).2 r with
        | stuck => rw [e2] at w; exact w.elim
        | exc k fs r1 => rw [e2] at w; exact w
        | ok p r1 =>
          rw [e2] at w
          cases p with
          | false => exact (w.1 rfl).out
          | true =>
            refine wq_nxq (G := fun s => thn φ ss (match s with
              | .next r2 => whileN (evT φ c) (evSs φ b) n r2
              | s => s)) (w.2 rfl).out (fun s h => ?_) (fun _ _ _ => rfl) (fun _ _ _ => rfl)
            obtain ⟨m', hm, h⟩ := h
            exact (ih m' hm n s (by omega) h).out
  exact go k n r hk h0
end
/-! ### defs -/
inductive FQ (vs : List SV) (P : D → Bool → List SV → Prop) : SR → Prop
  | next {r : Rho} {os : List SV} (h : outsV vs r = some os) (hP : P .none false os) : FQ vs P (.next r)
  | ret {d : D} {fr : Bool} {r : Rho} {os : List SV} (h : outsV vs r = some os) (hP : P d fr os) : FQ vs P (.ret d fr r)
theorem w_fn {φ : Phi} {n k : Nat} {b : Ss} {vs : List SV} {r : Rho} {P : D → Bool → List SV → Prop} (hl : vs.length = k) (hr : vs.map some ++ List.replicate (n - k) none = r) (h : WSs φ b r (FQ vs P)) : ∃ d fr os, fnV n k b φ vs = .ret d fr os ∧ P d fr os := by
  have w := h.out
  unfold fnV
  rw [if_pos hl, hr]
  cases e : evSs φ b r with
  | next r1 =>
    rw [e] at w
    cases w with
    | next e1 h1 => exact ⟨.none, false, _, by simp only [e1], h1⟩
  | ret d fr r1 =>
    rw [e] at w
    cases w with
    | ret e1 h1 => exact ⟨d, fr, _, by simp only [e1], h1⟩
  | exc c fs r1 => rw [e] at w; cases w
  | stuck => rw [e] at w; exact w.elim
/-- what it hands back is told -/
theorem w_fnE {φ : Phi} {n k : Nat} {b : Ss} {vs : List SV} {r : Rho} {d : D} {fr : Bool} {os : List SV} (hl : vs.length = k) (hr : vs.map some ++ List.replicate (n - k) none = r) (h : WSs φ b r (FQ vs fun d' fr' os' => d' = d ∧ fr' = fr ∧ os' = os)) : fnV n k b φ vs = .ret d fr os := by
  obtain ⟨d', fr', os', e, rfl, rfl, rfl⟩ := w_fn hl hr h
  exact e
theorem fq_ret {vs os : List SV} {P : D → Bool → List SV → Prop} {d : D} {fr : Bool} {r : Rho} (h : outsV vs r = some os) (hP : P d fr os) : FQ vs P (.ret d fr r) := .ret h hP
theorem fq_next {vs os : List SV} {P : D → Bool → List SV → Prop} {r : Rho} (h : outsV vs r = some os) (hP : P .none false os) : FQ vs P (.next r) := .next h hP
/-- a def that lets an error out -/
theorem w_fnX {φ : Phi} {n k : Nat} {b : Ss} {vs : List SV} {r : Rho} {c : Nat} {fs : List D} (hl : vs.length = k) (hr : vs.map some ++ List.replicate (n - k) none = r) (h : WSs φ b r fun q => ∃ r', q = .exc c fs r') : fnV n k b φ vs = .exc c fs := by
  subst hr
  unfold fnV
  rw [if_pos hl]
  have w := h.out
  unfold wq at w
  generalize evSs φ b (vs.map some ++ List.replicate (n - k) none) = q at w ⊢
  cases q with
  | stuck => exact w.elim
  | next r1 => obtain ⟨_, e⟩ := w; cases e
  | ret d fr r1 => obtain ⟨_, e⟩ := w; cases e
  | exc c' fs' r1 => obtain ⟨_, e⟩ := w; cases e; rfl
/-- a call that lets an error out -/
theorem w_cvX {X : XC} {k : AV → Rho → Prop} {r : Rho} {G : Sem} {as : List AV} {vs : List SV} {c : Nat} {fs : List D} (h1 : argsV r as = some vs) (h2 : nodupN (lent r as) = true) (h3 : G vs = .exc c fs) (hk : X c fs (wipeR r (lent r as))) : WV 11 (callV G as r) X k := ⟨by
  have e : callV G as r = .exc c fs (wipeR r (lent r as)) := by simp only [callV, h1, h2, h3, if_true]
  rw [e]; exact hk⟩
structure WTry (φ : Phi) (b : Ss) (i : Nat) (h : List HS) (r : Rho) (ss : Ss) (Q : SR → Prop) : Prop where
  out : wq (thn φ ss (catchS i h (evSs φ b r))) Q
theorem ws_try {φ : Phi} {b ss : Ss} {i : Nat} {h : List HS} {r : Rho} {Q : SR → Prop} (w : WTry φ b i h r ss Q) : WSs φ (.cons (.try_ b i h) ss) r Q := ⟨by
  rw [evSs_cons]; exact w.out⟩
end Ev
/-! The rules at one stroke: a text is gone through by reduction, up to where something is to be shown. -/
namespace Ev
open PySem
theorem WE.mono {φ : Phi} {X : XC} {e : E} {r : Rho} {k k' : AV → Rho → Prop} (h : WE φ X e r k) (g : ∀ a r, k a r → k' a r) : WE φ X e r k' := ⟨wv_mono h.out g⟩
theorem WT.mono {φ : Phi} {X : XC} {e : E} {r : Rho} {k k' : Bool → Rho → Prop} (h : WT φ X e r k) (g : ∀ a r, k a r → k' a r) : WT φ X e r k' := ⟨wv_mono h.out g⟩
theorem WD.mono {φ : Phi} {X : XC} {e : E} {r : Rho} {k k' : D → Rho → Prop} (h : WD φ X e r k) (g : ∀ a r, k a r → k' a r) : WD φ X e r k' := ⟨wv_mono h.out g⟩
theorem WDs.mono {φ : Phi} {X : XC} {e : Es} {r : Rho} {k k' : List D → Rho → Prop} (h : WDs φ X e r k) (g : ∀ a r, k a r → k' a r) : WDs φ X e r k' := ⟨wv_mono h.out g⟩
theorem WAs.mono {φ : Phi} {X : XC} {e : Es} {r : Rho} {k k' : List AV → Rho → Prop} (h : WAs φ X e r k) (g : ∀ a r, k a r → k' a r) : WAs φ X e r k' := ⟨wv_mono h.out g⟩
theorem WIt.mono {φ : Phi} {X : XC} {e : It} {r : Rho} {k k' : List D × Option (Nat × D) → Rho → Prop} (h : WIt φ X e r k) (g : ∀ a r, k a r → k' a r) : WIt φ X e r k' := ⟨wv_mono h.out g⟩
theorem WItF.mono {φ : Phi} {X : XC} {e : It} {r : Rho} {k k' : List D → Rho → Prop} (h : WItF φ X e r k) (g : ∀ a r, k a r → k' a r) : WItF φ X e r k' := ⟨wv_mono h.out g⟩
/-! ### where one stops -/
/-- an operator's outcome: t tells which -/
structure Po {α : Type} (t : Nat) (o : Option α) (k : α → Prop) : Prop where
  out : ∃ z, o = some z ∧ k z
theorem po {α : Type} {t : Nat} {o : Option α} {k : α → Prop} {z : α} (h : o = some z) (hk : k z) : Po t o k := ⟨z, h, hk⟩
/-- or, and, if in a test, in a value -/
structure JT (φ : Phi) (X : XC) (e : E) (r : Rho) (k : Bool → Rho → Prop) : Prop where
  out : WT φ X e r k
structure JV (φ : Phi) (X : XC) (e : E) (r : Rho) (k : AV → Rho → Prop) : Prop where
  out : WE φ X e r k
/-- a call -/
structure Cl (G : Sem) (as : List AV) (r : Rho) (X : XC) (k : AV → Rho → Prop) : Prop where
  out : WV 11 (callV G as r) X k
structure ClF (G : Sem) (x : AV) (as : List AV) (r : Rho) (X : XC) (k : AV → Rho → Prop) : Prop where
  out : WV 15 (callFV G x as r) X k
structure IfS (φ : Phi) (b : Bool) (t f ss : Ss) (r : Rho) (Q : SR → Prop) : Prop where
  out : (b = true → WSs φ (t.app ss) r Q) ∧ (b = false → WSs φ (f.app ss) r Q)
/-- no way here -/
structure Ran (t : Nat) (ds : List D) (k : List D → Prop) : Prop where
  out : ∃ xs, rangeD ds = some xs ∧ k xs
theorem ran1 {b : Int} {k : List D → Prop} {t : Nat} (h : b.natAbs ≤ 16777216) (hk : k (dI (irange 0 b))) : Ran t [.int b] k := ⟨_, rangeD1 h, hk⟩
theorem ran2 {a b : Int} {k : List D → Prop} {t : Nat} (h1 : a.natAbs ≤ 8000000) (h : b.natAbs ≤ 8000000) (hk : k (dI (irange a b))) : Ran t [.int a, .int b] k := ⟨_, rangeD2 h1 h, hk⟩
/-! ### steps -/
def q2 (t : Nat) (f : D → D → Option (D × Bool)) (x y : AV) (r : Rho) (k : AV → Rho → Prop) : Prop := match rd r x with
  | some a => match rd r y with
    | some b => Po t (f a b) fun z => match z with | (d, fr) => k (.d d fr) r
    | none => False
  | none => False
def q1 (t : Nat) (f : D → Option (D × Bool)) (x : AV) (r : Rho) (k : AV → Rho → Prop) : Prop := match rd r x with
  | some a => Po t (f a) fun z => match z with | (d, fr) => k (.d d fr) r
  | none => False
def q1r (t : Nat) (f : D → Option (D × Bool)) (x : AV) (r : Rho) (k : AV → Rho → Prop) : Prop := match rdr r x with
  | some a => Po t (f a) fun z => match z with | (d, fr) => k (.d d fr) r
  | none => False
def q1l (t : Nat) (f : D → Option (D × Bool)) (x : AV) (r : Rho) (k : AV → Rho → Prop) : Prop := match rdl r x with
  | some a => Po t (f a) fun z => match z with | (d, fr) => k (.d d fr) r
  | none => False
def qIx (x y : AV) (r : Rho) (k : AV → Rho → Prop) : Prop := match rdr r x with
  | some a => match rd r y with
    | some b => Po 3 (ixD a b) fun z => k (.d z false) r
    | none => False
  | none => False
def qIs (t : Ty) (x : AV) (r : Rho) (k : AV → Rho → Prop) : Prop := match rd r x with
  | some a => k (.d (.bool (isiD a t)) false) r
  | none => False
def qCp (c : Cp) (x y : AV) (r : Rho) (k : Bool → Rho → Prop) : Prop := match rd r x with
  | some a => match (match isTc c with
      | true => rdr r y
      | false => rd r y) with
    | some b => Po 2 (cpD c a b) fun z => k z r
    | none => False
  | none => False
def qTr (x : AV) (r : Rho) (k : Bool → Rho → Prop) : Prop := match rd r x with
  | some (.bool b) => k b r
  | some a => Po 4 (truthD a) fun z => k z r
  | none => False
def qFz (x : AV) (r : Rho) (k : D → Rho → Prop) : Prop := match x with
  | .d x _ => k x r
  | .var i => match r[i]? with
    | some (some (.d x)) => k x r
    | some (some (.own (.lst xs) true)) => k (.list xs) (r.set i (some (.d (.list xs))))
    | some (some (.own (.dk kvs) true)) => k (.dict kvs) (r.set i (some (.d (.dict kvs))))
    | _ => False
  | .cst _ => False
def qVar (i : Nat) (r : Rho) (k : AV → Rho → Prop) : Prop := match r[i]? with
  | some (some (.d x)) => k (.d x false) r
  | some (some (.own _ _)) => k (.var i) r
  | some (some (.ro _)) => k (.var i) r
  | _ => False
def qPart (l : List AV) (k : Option Int → Prop) : Prop := match partAV l with
  | some o => k o
  | none => False
def qDg2 (x y z : AV) (r : Rho) (k : AV → Rho → Prop) : Prop := match rd r x with
  | some (.dict kvs) => match rd r y with
    | some v => match rd r z with
      | some w => Po 5 (if isKey v && flatD w then some ((dfind v kvs).getD w) else none) fun d => k (.d d false) r
      | none => False
    | none => False
  | _ => False
def qMm (m : Mm) (i : Nat) (ys : List D) (r : Rho) (k : AV → Rho → Prop) : Prop := match r[i]? with
  | some (some (.own (.lst xs) mine)) => Po 6 (mmD m xs ys) fun z => match z with | (zs, y) => k (.d y false) (r.set i (some (.own (.lst zs) mine)))
  | _ => False
def qTd (o : Td) (i : Nat) (ys : List D) (r : Rho) (k : AV → Rho → Prop) : Prop := match r[i]? with
  | some (some (.own (.dt kvs) _)) => Po 7 (tdD o kvs ys) fun z => match z with | (d, fr) => k (.d d fr) r
  | _ => False
def qIR2 (neg : Bool) (x y z : AV) (r : Rho) (k : AV → Rho → Prop) : Prop := match rd r x with
  | some (.int i) => match rd r y with
    | some (.int a) => match rd r z with
      | some (.int b) => k (.d (inRD neg i a b) false) r
      | _ => False
    | _ => False
  | _ => False
def qWalk (x : AV) (r : Rho) (k : List D × Option (Nat × D) → Rho → Prop) : Prop := match rd r x with
  | some a => Po 8 (itemsD a) fun xs => k (xs, walked r x) r
  | none => False
def qWalkL (x : AV) (r : Rho) (k : List D × Option (Nat × D) → Rho → Prop) : Prop := match rd r x with
  | some a => Po 8 (itemsL a) fun xs => k (xs, walked r x) r
  | none => False
def qRan (as : List AV) (r : Rho) (k : List D × Option (Nat × D) → Rho → Prop) : Prop := match datAV as with
  | some ds => Ran 0 ds fun xs => k (xs, none) r
  | none => False
section
variable {X : XC} {r : Rho} {k : AV → Rho → Prop}
theorem q2_ok {t : Nat} {f : D → D → Option (D × Bool)} {x y : AV} (h : q2 t f x y r k) : WV 1 (op2v f x y r) X k := by
  unfold q2 at h
  split at h
  · rename_i a e1
    split at h
    · rename_i b e2
      obtain ⟨⟨z, fr⟩, e, hk⟩ := h.out
      exact w_op2v e1 e2 e hk
    · exact h.elim
  · exact h.elim
theorem q1_ok {t : Nat} {f : D → Option (D × Bool)} {x : AV} (h : q1 t f x r k) : WV 2 (op1 f x r) X k := by
  unfold q1 at h
  split at h
  · rename_i a e1
    obtain ⟨⟨z, fr⟩, e, hk⟩ := h.out
    exact w_op1v e1 e hk
  · exact h.elim
theorem q1r_ok {t : Nat} {f : D → Option (D × Bool)} {x : AV} (h : q1r t f x r k) : WV 3 (op1r f x r) X k := by
  unfold q1r at h
  split at h
  · rename_i a e1
    obtain ⟨⟨z, fr⟩, e, hk⟩ := h.out
    exact w_op1r e1 e hk
  · exact h.elim
theorem q1l_ok {t : Nat} {f : D → Option (D × Bool)} {x : AV} (h : q1l t f x r k) : WV 4 (op1l f x r) X k := by
  unfold q1l at h
  split at h
  · rename_i a e1
    obtain ⟨⟨z, fr⟩, e, hk⟩ := h.out
    exact w_op1l e1 e hk
  · exact h.elim
theorem qIx_ok {x y : AV} (h : qIx x y r k) : WV 5 (ixV x y r) X k := by
  unfold qIx at h
  split at h
  · rename_i a e1
    split at h
    · rename_i b e2
      obtain ⟨z, e, hk⟩ := h.out
      exact w_ixv e1 e2 e hk
    · exact h.elim
  · exact h.elim
theorem qIs_ok {t : Ty} {x : AV} (h : qIs t x r k) : WV 2 (op1 (isiP t) x r) X k := by
  unfold qIs at h
  split at h
  · rename_i a e1
    exact w_op1v e1 rfl h
  · exact h.elim
theorem qCp_ok {c : Cp} {x y : AV} {k : Bool → Rho → Prop} (h : qCp c x y r k) : WV 8 (cpV c x y r) X k := by
  unfold qCp at h
  split at h
  · rename_i a e1
    cases hc : isTc c with
    | true =>
      rw [hc] at h
      dsimp only at h
      split at h
      · rename_i b e2
        obtain ⟨z, e, hk⟩ := h.out
        exact w_cpt hc e1 e2 e hk
      · exact h.elim
    | false =>
      rw [hc] at h
      dsimp only at h
      split at h
      · rename_i b e2
        obtain ⟨z, e, hk⟩ := h.out
        exact w_cpv hc e1 e2 e hk
      · exact h.elim
  · exact h.elim
theorem qTr_ok {x : AV} {k : Bool → Rho → Prop} (h : qTr x r k) : WV 7 (truthV x r) X k := by
  unfold qTr at h
  split at h
  · rename_i b e1
    exact w_trv e1 rfl h
  · rename_i a _ e1
    obtain ⟨z, e, hk⟩ := h.out
    exact w_trv e1 e hk
  · exact h.elim
theorem qFz_ok {x : AV} {k : D → Rho → Prop} (h : qFz x r k) : WV 20 (fz r x) X k := by
  unfold qFz at h
  split at h
  · exact w_fz h
  · split at h
    · rename_i x e
      exact ⟨by simp only [fz, e]; exact h⟩
    · rename_i xs e
      exact w_fzL e h
    · rename_i xs e
      exact w_fzD e h
    · exact h.elim
  · exact h.elim
theorem qVar_ok {φ : Phi} {i : Nat} (h : qVar i r k) : WE φ X (.var i) r k := by
  unfold qVar at h
  split at h
  · rename_i x e; exact w_var e h
  · rename_i x e; exact w_own e h
  · rename_i x e; exact w_ro e h
  · exact h.elim
theorem qDg2_ok {x y z : AV} (h : qDg2 x y z r k) : WV 6 (dget2V x y z r) X k := by
  unfold qDg2 at h
  split at h
  · rename_i kvs e1
    split at h
    · rename_i v e2
      split at h
      · rename_i w e3
        obtain ⟨d, e, hk⟩ := h.out
        split at e
        · rename_i c
          rw [Bool.and_eq_true] at c
          cases e
          exact w_dget2v e1 e2 e3 c.1 c.2 hk
        · cases e
      · exact h.elim
    · exact h.elim
  · exact h.elim
theorem qMm_ok {m : Mm} {i : Nat} {ys : List D} (h : qMm m i ys r k) : WV 9 (mmV m i ys r) X k := by
  unfold qMm at h
  split at h
  · rename_i xs mine e
    obtain ⟨⟨z, fr⟩, e2, hk⟩ := h.out
    exact w_mmv e e2 hk
  · exact h.elim
theorem qTd_ok {o : Td} {i : Nat} {ys : List D} (h : qTd o i ys r k) : WV 10 (tdV o i ys r) X k := by
  unfold qTd at h
  split at h
  · rename_i kvs m e
    obtain ⟨⟨z, fr⟩, e2, hk⟩ := h.out
    exact w_tdv e e2 hk
  · exact h.elim
theorem qIR2_ok {neg : Bool} {x y z : AV} (h : qIR2 neg x y z r k) : WV 15 (inR2V neg x y z r) X k := by
  unfold qIR2 at h
  split at h
  · rename_i i e1
    split at h
    · rename_i a e2
      split at h
      · rename_i b e3
        exact w_inR2v e1 e2 e3 h
      · exact h.elim
    · exact h.elim
  · exact h.elim
theorem qWalk_ok {x : AV} {k : List D × Option (Nat × D) → Rho → Prop} (h : qWalk x r k) : WV 12 (walkV x r) X k := by
  unfold qWalk at h
  split at h
  · rename_i a e
    obtain ⟨xs, e2, hk⟩ := h.out
    refine ⟨?_⟩
    unfold walkV
    rw [e]
    show wv (match itemsD a with | some xs => R.ok (xs, walked r x) r | none => .stuck) X k
    rw [e2]
    exact hk
  · exact h.elim
theorem qWalkL_ok {x : AV} {k : List D × Option (Nat × D) → Rho → Prop} (h : qWalkL x r k) : WV 14 (walkLV x r) X k := by
  unfold qWalkL at h
  split at h
  · rename_i a e
    obtain ⟨xs, e2, hk⟩ := h.out
    refine ⟨?_⟩
    unfold walkLV
    rw [e]
    show wv (match itemsL a with | some xs => R.ok (xs, walked r x) r | none => .stuck) X k
    rw [e2]
    exact hk
  · exact h.elim
theorem qRan_ok {as : List AV} {k : List D × Option (Nat × D) → Rho → Prop} (h : qRan as r k) : WV 13 (rangeV as r) X k := by
  unfold qRan at h
  split at h
  · rename_i ds e
    obtain ⟨xs, e2, hk⟩ := h.out
    exact w_rngv e e2 hk
  · exact h.elim
end
mutual
def pE (φ : Phi) (X : XC) : E → Rho → (AV → Rho → Prop) → Prop
  | .var i, r, k => qVar i r k
  | .int n, r, k => k (.d (.int n) false) r
  | .str n, r, k => k (.d (.str n) false) r
  | .bl n, r, k => k (.d (.bool n) false) r
  | .non, r, k => k (.d .none false) r
  | .glob _ d, r, k => match flatD d with
    | true => k (.d d false) r
    | false => k (.cst d) r
  | .op2 o a b, r, k => pE φ X a r fun x r1 => pE φ X b r1 fun y r2 => q2 0 (op2D o) x y r2 k
  | .neg a, r, k => pE φ X a r fun x r1 => q1 1 negD x r1 k
  | .not a, r, k => pE φ X a r fun x r1 => match x with
    | .d (.bool n) _ => k (.d (.bool !n) false) r1
    | _ => False
  | .and a b, r, k => JV φ X (.and a b) r k
  | .or a b, r, k => JV φ X (.or a b) r k
  | .ite c a b, r, k => JV φ X (.ite c a b) r k
  | .cmp c a b, r, k => pE φ X a r fun x r1 => pE φ X b r1 fun y r2 => qCp c x y r2 fun n r3 => k (.d (.bool n) false) r3
  | .chain c c' a b d, r, k => JV φ X (.chain c c' a b d) r k
  | .tup es, r, k => pDs φ X es r fun xs r1 => k (.d (.tuple xs) false) r1
  | .lst es, r, k => pDs φ X es r fun xs r1 => k (.d (.list xs) true) r1
  | .dict0, r, k => k (.d (.dict []) true) r
  | .ix a b, r, k => pE φ X a r fun x r1 => pE φ X b r1 fun y r2 => qIx x y r2 k
  | .dix a b, r, k => pE φ X a r fun x r1 => pE φ X b r1 fun y r2 => q2 9 dixP x y r2 k
  | .sl a (.cons b .nil) .nil, r, k => pE φ X a r fun x r1 => pE φ X b r1 fun y r2 => qPart [unfr y] fun l => q1l 10 (slD l none) x r2 k
  | .sl a .nil (.cons b .nil), r, k => pE φ X a r fun x r1 => pE φ X b r1 fun y r2 => qPart [unfr y] fun l => q1l 10 (slD none l) x r2 k
  | .sl a (.cons b .nil) (.cons c .nil), r, k => pE φ X a r fun x r1 => pE φ X b r1 fun y r2 => qPart [unfr y] fun l => pE φ X c r2 fun z r3 => qPart [unfr z] fun l' => q1l 10 (slD l l') x r3 k
  | .sl a l h, r, k => JV φ X (.sl a l h) r k
  | .rev a, r, k => pE φ X a r fun x r1 => q1 11 revD x r1 k
  | .len a, r, k => pE φ X a r fun x r1 => q1r 12 lenP x r1 k
  | .bi b a, r, k => pE φ X a r fun x r1 => q1 13 (biD b) x r1 k
  | .bi2 b a c, r, k => pE φ X a r fun x r1 => pE φ X c r1 fun y r2 => q2 14 (bi2D b) x y r2 k
  | .isi a t, r, k => pE φ X a r fun x r1 => qIs t x r1 k
  | .mr m a b, r, k => pE φ X a r fun x r1 => isSV m x r1 = true ∧ pE φ X b r1 fun y r2 => q2 15 (mrD m) x y r2 k
  | .dget1 a b, r, k => pE φ X a r fun x r1 => isDV x r1 = true ∧ pE φ X b r1 fun y r2 => q2 16 dget1D x y r2 k
  | .dget2 a b c, r, k => pE φ X a r fun x r1 => isDV x r1 = true ∧ pE φ X b r1 fun y r2 => pE φ X c r2 fun z r3 => qDg2 x y z r3 k
  | .mm m i es, r, k => ownL r i = true ∧ pDs φ X es r fun ys r1 => qMm m i ys r1 k
  | .td o i es, r, k => ownT r i = true ∧ pDs φ X es r fun ys r1 => qTd o i ys r1 k
  | .call f es, r, k => pAs φ X es r fun as r1 => Cl (φ f) as r1 X k
  | .callF f e es, r, k => pE φ X e r fun x r1 => pAs φ X es r1 fun as r2 => ClF (φ f) x as r2 X k
  | .comp tg it cond elt, r, k => pIt φ X it r fun q r1 => WComp φ X tg cond elt q r1 k
  | .inR1 neg a b, r, k => pE φ X a r fun x r1 => pE φ X b r1 fun y r2 => q2 17 (inR1D neg) x y r2 k
  | .inR2 neg a b c, r, k => pE φ X a r fun x r1 => pE φ X b r1 fun y r2 => pE φ X c r2 fun z r3 => qIR2 neg x y z r3 k
  | .rng1 t a, r, k => pE φ X a r fun x r1 => q1 18 (rng1D t) x r1 k
  | .rng2 t a b, r, k => pE φ X a r fun x r1 => pE φ X b r1 fun y r2 => q2 19 (rng2D t) x y r2 k
def pDs (φ : Phi) (X : XC) : Es → Rho → (List D → Rho → Prop) → Prop
  | .nil, r, k => k [] r
  | .cons e es, r, k => pE φ X e r fun x r1 => qFz x r1 fun x r2 => pDs φ X es r2 fun xs r3 => k (x :: xs) r3
def pAs (φ : Phi) (X : XC) : Es → Rho → (List AV → Rho → Prop) → Prop
  | .nil, r, k => k [] r
  | .cons e es, r, k => pE φ X e r fun x r1 => pAs φ X es r1 fun xs r2 => k (unfr x :: xs) r2
def pIt (φ : Phi) (X : XC) : It → Rho → (List D × Option (Nat × D) → Rho → Prop) → Prop
  | .seq e, r, k => pE φ X e r fun x r1 => qWalk x r1 k
  | .range es, r, k => pAs φ X es r fun as r1 => qRan as r1 k
  | .enum e, r, k => pE φ X e r fun x r1 => qWalkL x r1 fun q r2 => k (enumL 0 q.1, q.2) r2
end
theorem qPart1_ok {y : AV} {k : Option Int → Prop} (h : qPart [unfr y] k) : ∃ n f, y = .d (.int n) f ∧ k (some n) := by
  unfold qPart at h
  split at h
  · rename_i o e
    cases y with
    | var i => cases e
    | cst x => cases e
    | d x f =>
      cases x <;> first | (cases e; done) | (cases e; exact ⟨_, _, rfl, h⟩)
  · exact h.elim
mutual
theorem pE_ok {φ : Phi} {X : XC} : ∀ (e : E) {r : Rho} {k : AV → Rho → Prop}, pE φ X e r k → WE φ X e r k
  | .var i, r, k, h => qVar_ok h
  | .int n, r, k, h => w_int h
  | .str n, r, k, h => w_str h
  | .bl n, r, k, h => w_bl h
  | .non, r, k, h => w_non h
  | .glob _ d, r, k, h => by
    unfold pE at h
    cases e : flatD d with
    | true => rw [e] at h; exact w_glob e h
    | false => rw [e] at h; exact w_globC e h
  | .op2 o a b, r, k, h => w_op2 ((pE_ok a h).mono fun x r1 h => (pE_ok b h).mono fun y r2 h => q2_ok h)
  | .neg a, r, k, h => w_neg ((pE_ok a h).mono fun x r1 h => q1_ok h)
  | .not a, r, k, h => w_not ((pE_ok a h).mono fun x r1 h => by
    split at h
    · exact ⟨_, _, rfl, h⟩
    · exact h.elim)
  | .and a b, r, k, h => h.out
  | .or a b, r, k, h => h.out
  | .ite c a b, r, k, h => h.out
  | .cmp c a b, r, k, h => w_cmp ((pE_ok a h).mono fun x r1 h => (pE_ok b h).mono fun y r2 h => qCp_ok h)
  | .chain c c' a b d, r, k, h => h.out
  | .tup es, r, k, h => w_tup (pDs_ok es h)
  | .lst es, r, k, h => w_lst (pDs_ok es h)
  | .dict0, r, k, h => w_dict0 h
  | .ix a b, r, k, h => w_ix ((pE_ok a h).mono fun x r1 h => (pE_ok b h).mono fun y r2 h => qIx_ok h)
  | .dix a b, r, k, h => w_dix ((pE_ok a h).mono fun x r1 h => (pE_ok b h).mono fun y r2 h => q2_ok h)
  | .sl a (.cons b .nil) .nil, r, k, h => w_sl1 ((pE_ok a h).mono fun x r1 h => (pE_ok b h).mono fun y r2 h => by
    obtain ⟨n, f, e, h⟩ := qPart1_ok h
    exact ⟨n, f, e, q1l_ok h⟩)
  | .sl a .nil (.cons b .nil), r, k, h => w_sl2 ((pE_ok a h).mono fun x r1 h => (pE_ok b h).mono fun y r2 h => by
    obtain ⟨n, f, e, h⟩ := qPart1_ok h
    exact ⟨n, f, e, q1l_ok h⟩)
  | .sl a (.cons b .nil) (.cons c .nil), r, k, h => w_sl3 ((pE_ok a h).mono fun x r1 h => (pE_ok b h).mono fun y r2 h => by
    obtain ⟨n, f, e, h⟩ := qPart1_ok h
    exact ⟨n, f, e, (pE_ok c h).mono fun z r3 h => by
      obtain ⟨n, f, e, h⟩ := qPart1_ok h
      exact ⟨n, f, e, q1l_ok h⟩⟩)
  | .sl a .nil .nil, r, k, h => h.out
  | .sl a (.cons b (.cons _ _)) .nil, r, k, h => h.out
  | .sl a .nil (.cons b (.cons _ _)), r, k, h => h.out
  | .sl a (.cons b (.cons _ _)) (.cons c _), r, k, h => h.out
  | .sl a (.cons b .nil) (.cons c (.cons _ _)), r, k, h => h.out
  | .rev a, r, k, h => w_rev ((pE_ok a h).mono fun x r1 h => q1_ok h)
  | .len a, r, k, h => w_len ((pE_ok a h).mono fun x r1 h => q1r_ok h)
  | .bi b a, r, k, h => w_bi ((pE_ok a h).mono fun x r1 h => q1_ok h)
  | .bi2 b a c, r, k, h => w_bi2 ((pE_ok a h).mono fun x r1 h => (pE_ok c h).mono fun y r2 h => q2_ok h)
  | .isi a t, r, k, h => w_isi ((pE_ok a h).mono fun x r1 h => qIs_ok h)
  | .mr m a b, r, k, h => w_mr ((pE_ok a h).mono fun x r1 h => ⟨h.1, (pE_ok b h.2).mono fun y r2 h => q2_ok h⟩)
  | .dget1 a b, r, k, h => w_dget1 ((pE_ok a h).mono fun x r1 h => ⟨h.1, (pE_ok b h.2).mono fun y r2 h => q2_ok h⟩)
  | .dget2 a b c, r, k, h => w_dget2 ((pE_ok a h).mono fun x r1 h => ⟨h.1, (pE_ok b h.2).mono fun y r2 h => (pE_ok c h).mono fun z r3 h => qDg2_ok h⟩)
  | .mm m i es, r, k, h => w_mm h.1 ((pDs_ok es h.2).mono fun ys r1 h => qMm_ok h)
  | .td o i es, r, k, h => w_td h.1 ((pDs_ok es h.2).mono fun ys r1 h => qTd_ok h)
  | .call f es, r, k, h => w_call ((pAs_ok es h).mono fun as r1 h => h.out)
  | .callF f e es, r, k, h => w_callF ((pE_ok e h).mono fun x r1 h => (pAs_ok es h).mono fun as r2 h => h.out)
  | .comp tg it cond elt, r, k, h => w_comp (pIt_ok it h)
  | .inR1 neg a b, r, k, h => w_inR1 ((pE_ok a h).mono fun x r1 h => (pE_ok b h).mono fun y r2 h => q2_ok h)
  | .inR2 neg a b c, r, k, h => w_inR2 ((pE_ok a h).mono fun x r1 h => (pE_ok b h).mono fun y r2 h => (pE_ok c h).mono fun z r3 h => qIR2_ok h)
  | .rng1 t a, r, k, h => w_rng1 ((pE_ok a h).mono fun x r1 h => q1_ok h)
  | .rng2 t a b, r, k, h => w_rng2 ((pE_ok a h).mono fun x r1 h => (pE_ok b h).mono fun y r2 h => q2_ok h)
theorem pDs_ok {φ : Phi} {X : XC} : ∀ (es : Es) {r : Rho} {k : List D → Rho → Prop}, pDs φ X es r k → WDs φ X es r k
  | .nil, r, k, h => w_dsN h
  | .cons e es, r, k, h => w_dsC (w_d ((pE_ok e h).mono fun x r1 h => ⟨wv_mono (qFz_ok (X := X) h).out fun x r2 h => pDs_ok es h⟩))
theorem pAs_ok {φ : Phi} {X : XC} : ∀ (es : Es) {r : Rho} {k : List AV → Rho → Prop}, pAs φ X es r k → WAs φ X es r k
  | .nil, r, k, h => w_asN h
  | .cons e es, r, k, h => w_asC ((pE_ok e h).mono fun x r1 h => pAs_ok es h)
theorem pIt_ok {φ : Phi} {X : XC} : ∀ (it : It) {r : Rho} {k : List D × Option (Nat × D) → Rho → Prop}, pIt φ X it r k → WIt φ X it r k
  | .seq e, r, k, h => w_seq ((pE_ok e h).mono fun x r1 h => qWalk_ok h)
  | .range es, r, k, h => w_rng ((pAs_ok es h).mono fun x r1 h => qRan_ok h)
  | .enum e, r, k, h => w_enum ((pE_ok e h).mono fun x r1 h => qWalkL_ok h)
end
def pD (φ : Phi) (X : XC) (e : E) (r : Rho) (k : D → Rho → Prop) : Prop := pE φ X e r fun x r1 => qFz x r1 k
theorem pD_ok {φ : Phi} {X : XC} {e : E} {r : Rho} {k : D → Rho → Prop} (h : pD φ X e r k) : WD φ X e r k := w_d ((pE_ok e h).mono fun x r1 h => qFz_ok h)
def pT (φ : Phi) (X : XC) : E → Rho → (Bool → Rho → Prop) → Prop
  | .not a, r, k => pT φ X a r fun n r1 => k (!n) r1
  | .and a b, r, k => JT φ X (.and a b) r k
  | .or a b, r, k => JT φ X (.or a b) r k
  | .ite c a b, r, k => JT φ X (.ite c a b) r k
  | e, r, k => pE φ X e r fun x r1 => qTr x r1 k
theorem pT_ok {φ : Phi} {X : XC} : ∀ (e : E) {r : Rho} {k : Bool → Rho → Prop}, pT φ X e r k → WT φ X e r k := by
  intro e
  induction e using E.rec (motive_2 := fun _ => True) (motive_3 := fun _ => True) with
  | not a ih => intro r k h; exact w_notT (ih h)
  | and a b _ _ => intro r k h; exact JT.out h
  | or a b _ _ => intro r k h; exact JT.out h
  | ite c a b _ _ _ => intro r k h; exact JT.out h
  | nil => trivial
  | cons => trivial
  | seq => trivial
  | range => trivial
  | enum => trivial
  | _ => intro r k h; exact w_tr rfl ((pE_ok _ h).mono fun x r1 h => qTr_ok h)
def pItF (φ : Phi) (X : XC) : It → Rho → (List D → Rho → Prop) → Prop
  | .seq e, r, k => pD φ X e r fun x r1 => Po 8 (itemsD x) fun xs => k xs r1
  | .range es, r, k => pAs φ X es r fun as r1 => qRan as r1 fun q r2 => k q.1 r2
  | .enum e, r, k => pD φ X e r fun x r1 => Po 8 (itemsL x) fun xs => k (enumL 0 xs) r1
theorem pItF_ok {φ : Phi} {X : XC} : ∀ (it : It) {r : Rho} {k : List D → Rho → Prop}, pItF φ X it r k → WItF φ X it r k
  | .seq e, r, k, h => w_seqF ((pD_ok (e := e) h).mono fun x r1 h => h.out)
  | .range es, r, k, h => ⟨by
    have q : evItF φ (.range es) r = (evAs φ es r).bind fun as r1 => (rangeV as r1).bind fun q r2 => .ok q.1 r2 := rfl
    rw [q, wv_bind]
    refine wv_mono (pAs_ok es h).out fun as r1 h => ?_
    rw [wv_bind]
    exact (qRan_ok (X := X) h).out⟩
  | .enum e, r, k, h => w_enumF ((pD_ok (e := e) h).mono fun x r1 h => h.out)
def qRet (x : AV) (r : Rho) (Q : SR → Prop) : Prop := match x with
  | .d x fr => Q (.ret x fr r)
  | .var i => match r[i]? with
    | some (some (.d x)) => Q (.ret x false r)
    | some (some (.own (.lst xs) true)) => Q (.ret (.list xs) true (r.set i none))
    | some (some (.own (.dk kvs) true)) => Q (.ret (.dict kvs) true (r.set i none))
    | _ => False
  | .cst _ => False
theorem qRet_ok {x : AV} {r : Rho} {Q : SR → Prop} (h : qRet x r Q) : WRet x r Q := ⟨by
  unfold qRet at h
  unfold retV
  split at h
  · exact h
  · rename_i i
    dsimp only
    split at h
    · first | exact h | (rename_i e; rw [e]; exact h)
    · first | exact h | (rename_i e; rw [e]; exact h)
    · first | exact h | (rename_i e; rw [e]; exact h)
    · exact h.elim
  · exact h.elim⟩
def qAsgO (i : Nat) (x : AV) (r : Rho) (k : Rho → Prop) : Prop := match x with
  | .d (.list xs) true => k (r.set i (some (.own (.lst xs) true)))
  | .d (.dict kvs) true => k (r.set i (some (.own (.dk kvs) true)))
  | _ => False
theorem qAsgO_ok {i : Nat} {x : AV} {r : Rho} {k : Rho → Prop} (h : qAsgO i x r k) : WAsg i x r k := by
  unfold qAsgO at h
  split at h
  · exact w_asgL h
  · exact w_asgD h
  · exact h.elim
def qUnp (i j : Nat) (x : AV) (r : Rho) (k : Rho → Prop) : Prop := match rd r x with
  | some (.tuple [u, v]) => k ((r.set i (some (.d u))).set j (some (.d v)))
  | _ => False
def qSet (i : Nat) (x : D) (y : AV) (r : Rho) (k : Rho → Prop) : Prop := match r[i]? with
  | some (some (.own (.lst xs) m)) => match y with
    | .d (.int n) _ => Po 20 (L2.ixN xs.length n) fun l => k (r.set i (some (.own (.lst (xs.set l x)) m)))
    | _ => False
  | _ => False
theorem qSet_ok {i : Nat} {x : D} {y : AV} {r : Rho} {k : Rho → Prop} (h : qSet i x y r k) : WK 1 (setV i x y r) k := by
  unfold qSet at h
  split at h
  · rename_i xs m e
    split at h
    · obtain ⟨l, e2, h⟩ := h.out
      exact w_setv e e2 h
    · exact h.elim
  · exact h.elim
/-- room in a dict, a key that is one -/
structure Room (t : Nat) (n : Nat) (b : Bool) (P : Prop) : Prop where
  out : n < line ∧ b = true ∧ P
theorem room {t n : Nat} {b : Bool} {P : Prop} (h1 : n ≤ 10000000) (h2 : b = true) (h : P) : Room t n b P := ⟨by unfold line; omega, h2, h⟩
def qDset (i : Nat) (x y : D) (r : Rho) (k : Rho → Prop) : Prop := match r[i]? with
  | some (some (.own (.dk kvs) m)) => Room 0 kvs.length (isKey y) (k (r.set i (some (.own (.dk (dput y x kvs)) m))))
  | some (some (.own (.dt kvs) m)) => Room 1 kvs.length (keyT y) (k (r.set i (some (.own (.dt (dput y x kvs)) m))))
  | _ => False
theorem qDset_ok {i : Nat} {x y : D} {r : Rho} {k : Rho → Prop} (h : qDset i x y r k) : WK 2 (dsetV i x y r) k := by
  unfold qDset at h
  split at h
  · rename_i e
    exact w_dsetK e h.out.1 h.out.2.1 h.out.2.2
  · rename_i e
    exact w_dsetT e h.out.1 h.out.2.1 h.out.2.2
  · exact h.elim
def qAug (o : Op2) (i : Nat) (n : Int) (y : AV) (r : Rho) (k : Rho → Prop) : Prop := match y with
  | .d (.int m) _ => Po 0 (op2D o (.int n) (.int m)) fun z => match z with | (d, _) => k (r.set i (some (.d d)))
  | _ => False
def pS1 (φ : Phi) (s : S) (ss : Ss) (nx : Rho → Prop) (r : Rho) (Q : SR → Prop) : Prop := match s with
  | .expr e => pE φ (exq Q) e r fun _ r1 => nx r1
  | .asg i e => pD φ (exq Q) e r fun x r1 => nx (r1.set i (some (.d x)))
  | .asgO i e => pE φ (exq Q) e r fun x r1 => qAsgO i x r1 nx
  | .asgT i => nx (r.set i (some (.own (.dt []) true)))
  | .unp i j e => pE φ (exq Q) e r fun x r1 => qUnp i j x r1 nx
  | .par i j a b => pD φ (exq Q) a r fun x r1 => pD φ (exq Q) b r1 fun y r2 => nx ((r2.set i (some (.d x))).set j (some (.d y)))
  | .set i a e => pD φ (exq Q) e r fun x r1 => ownA r1 i = true ∧ pE φ (exq Q) a r1 fun y r2 => qSet i x y r2 nx
  | .dset i a e => pD φ (exq Q) e r fun x r1 => ownA r1 i = true ∧ pD φ (exq Q) a r1 fun y r2 => qDset i x y r2 nx
  | .aug i o e => match r[i]? with
    | some (some (.d (.int n))) => pE φ (exq Q) e r fun y r1 => qAug o i n y r1 nx
    | _ => False
  | .iff c t f => pT φ (exq Q) c r fun b r1 => IfS φ b t f ss r1 Q
  | .for_ tg it b => pItF φ (exq Q) it r fun xs r1 => WFor φ tg b xs r1 ss Q
  | .while_ n c b => WWhile φ c b n r ss Q
  | .ret e => pE φ (exq Q) e r fun x r1 => qRet x r1 Q
  | .pass => nx r
  | .raise_ c es => pDs φ (exq Q) es r fun xs r1 => Q (.exc c xs r1)
  | .try_ b i h => WTry φ b i h r ss Q
  | .never => False
def pSs (φ : Phi) : Ss → Rho → (SR → Prop) → Prop
  | .nil, r, Q => Q (.next r)
  | .cons s ss, r, Q => pS1 φ s ss (fun r1 => pSs φ ss r1 Q) r Q
theorem ws_raise {φ : Phi} {c : Nat} {es : Es} {ss : Ss} {r : Rho} {Q : SR → Prop} (h : WDs φ (exq Q) es r fun xs r1 => Q (.exc c xs r1)) : WSs φ (.cons (.raise_ c es) ss) r Q := ⟨by
  rw [evSs_cons]
  exact wq_st (F := fun xs r1 => .exc c xs r1) (G := thn φ ss) (fun _ _ _ => rfl) rfl (wv_mono h.out fun x r1 h1 => h1)⟩
theorem pSs_ok {φ : Phi} : ∀ (ss : Ss) {r : Rho} {Q : SR → Prop}, pSs φ ss r Q → WSs φ ss r Q
  | .nil, r, Q, h => ws_nil h
  | .cons s ss, r, Q, h => by
    have ih : ∀ {r : Rho}, pSs φ ss r Q → WSs φ ss r Q := fun h => pSs_ok ss h
    have h : pS1 φ s ss (fun r1 => pSs φ ss r1 Q) r Q := h
    cases s with
    | expr e => exact ws_expr ((pE_ok e h).mono fun _ r1 h => ih h)
    | asg i e => exact ws_asg ((pD_ok (e := e) h).mono fun _ r1 h => ih h)
    | asgO i e => exact ws_asgO ((pE_ok e h).mono fun x r1 h => by
        have w := qAsgO_ok h
        obtain ⟨r', e1, h1⟩ := w.out
        exact ⟨r', e1, ih h1⟩)
    | asgT i => exact ws_asgT (ih h)
    | unp i j e => exact ws_unp ((pE_ok e h).mono fun x r1 h => by
        unfold qUnp at h
        split at h
        · rename_i u v e1; exact ⟨u, v, e1, ih h⟩
        · exact h.elim)
    | par i j a b => exact ws_par ((pD_ok (e := a) h).mono fun x r1 h => (pD_ok (e := b) h).mono fun y r2 h => ih h)
    | set i a e => exact ws_set ((pD_ok (e := e) h).mono fun x r1 h => ⟨h.1, (pE_ok a h.2).mono fun y r2 h => by
        obtain ⟨r', e1, h1⟩ := (qSet_ok h).out
        exact ⟨r', e1, ih h1⟩⟩)
    | dset i a e => exact ws_dset ((pD_ok (e := e) h).mono fun x r1 h => ⟨h.1, (pD_ok (e := a) h.2).mono fun y r2 h => by
        obtain ⟨r', e1, h1⟩ := (qDset_ok h).out
        exact ⟨r', e1, ih h1⟩⟩)
    | aug i o e =>
      unfold pS1 at h
      dsimp only at h
      split at h
      · rename_i n e1
        refine ws_aug e1 ((pE_ok e h).mono fun y r1 h => ?_)
        unfold qAug at h
        split at h
        · obtain ⟨⟨z, fr⟩, e2, h2⟩ := h.out
          exact ⟨_, _, z, fr, rfl, e2, ih h2⟩
        · exact h.elim
      · exact h.elim
    | iff c t f => exact ws_iff ((pT_ok c h).mono fun b r1 h => h.out)
    | for_ tg it b => exact ws_for (pItF_ok it h)
    | while_ n c b => exact ws_while h
    | ret e => exact ws_ret ((pE_ok e h).mono fun x r1 h => qRet_ok h)
    | pass => exact ws_pass (ih h)
    | raise_ c es => exact ws_raise (pDs_ok es h)
    | try_ b i hs => exact ws_try h
    | never => exact h.elim
/-! ### both ways, one way -/
section
variable {φ : Phi} {X : XC} {a b c d : E} {r : Rho}
theorem jt_or {k : Bool → Rho → Prop} {p q : Bool} (h1 : pT φ X a r fun n r1 => n = p ∧ r1 = r) (h2 : p = false → pT φ X b r fun n r1 => n = q ∧ r1 = r) (hk : k (p || q) r) : JT φ X (.or a b) r k := ⟨w_orT (pT_ok a h1) (fun h => pT_ok b (h2 h)) hk⟩
theorem jt_and {k : Bool → Rho → Prop} {p q : Bool} (h1 : pT φ X a r fun n r1 => n = p ∧ r1 = r) (h2 : p = true → pT φ X b r fun n r1 => n = q ∧ r1 = r) (hk : k (p && q) r) : JT φ X (.and a b) r k := ⟨w_andT (pT_ok a h1) (fun h => pT_ok b (h2 h)) hk⟩
theorem jt_or2 {k : Bool → Rho → Prop} (h1 : pT φ X a r fun n r1 => (n = true → k true r1) ∧ (n = false → pT φ X b r1 k)) : JT φ X (.or a b) r k := ⟨w_orT2 ((pT_ok a h1).mono fun n r1 h => ⟨h.1, fun e => pT_ok b (h.2 e)⟩)⟩
theorem jt_and2 {k : Bool → Rho → Prop} (h1 : pT φ X a r fun n r1 => (n = false → k false r1) ∧ (n = true → pT φ X b r1 k)) : JT φ X (.and a b) r k := ⟨w_andT2 ((pT_ok a h1).mono fun n r1 h => ⟨h.1, fun e => pT_ok b (h.2 e)⟩)⟩
theorem jt_ite {k : Bool → Rho → Prop} (h1 : pT φ X c r fun n r1 => (n = true → pT φ X a r1 k) ∧ (n = false → pT φ X b r1 k)) : JT φ X (.ite c a b) r k := ⟨w_iteT ((pT_ok c h1).mono fun n r1 h => ⟨fun e => pT_ok a (h.1 e), fun e => pT_ok b (h.2 e)⟩)⟩
/-- a truth, as a value -/
def isBl (p : Bool) (r : Rho) (x : AV) (r1 : Rho) : Prop := x = .d (.bool p) false ∧ r1 = r
theorem jv_or {k : AV → Rho → Prop} {p q : Bool} (h1 : pE φ X a r fun x r1 => x = .d (.bool p) false ∧ r1 = r) (h2 : p = false → pE φ X b r fun x r1 => x = .d (.bool q) false ∧ r1 = r) (hk : k (.d (.bool (p || q)) false) r) : JV φ X (.or a b) r k := ⟨w_or ((pE_ok a h1).mono fun x r1 h => ⟨⟨_, h.1⟩, h.2⟩) (fun h => pE_ok b (h2 h)) hk⟩
theorem jv_and {k : AV → Rho → Prop} {p q : Bool} (h1 : pE φ X a r fun x r1 => x = .d (.bool p) false ∧ r1 = r) (h2 : p = true → pE φ X b r fun x r1 => x = .d (.bool q) false ∧ r1 = r) (hk : k (.d (.bool (p && q)) false) r) : JV φ X (.and a b) r k := ⟨w_and ((pE_ok a h1).mono fun x r1 h => ⟨⟨_, h.1⟩, h.2⟩) (fun h => pE_ok b (h2 h)) hk⟩
theorem jv_or2 {k : AV → Rho → Prop} (h1 : pE φ X a r fun x r1 => ∃ p f, x = .d (.bool p) f ∧ (p = true → k (.d (.bool true) false) r1) ∧ (p = false → pE φ X b r1 k)) : JV φ X (.or a b) r k := ⟨w_or2 ((pE_ok a h1).mono fun x r1 ⟨p, f, e, h2, h3⟩ => ⟨p, f, e, h2, fun h => pE_ok b (h3 h)⟩)⟩
theorem jv_and2 {k : AV → Rho → Prop} (h1 : pE φ X a r fun x r1 => ∃ p f, x = .d (.bool p) f ∧ (p = false → k (.d (.bool false) false) r1) ∧ (p = true → pE φ X b r1 k)) : JV φ X (.and a b) r k := ⟨w_and2 ((pE_ok a h1).mono fun x r1 ⟨p, f, e, h2, h3⟩ => ⟨p, f, e, h2, fun h => pE_ok b (h3 h)⟩)⟩
theorem jv_ite {k : AV → Rho → Prop} {p : Bool} {x y : D} {f : Bool} (h1 : pT φ X c r fun n r1 => n = p ∧ r1 = r) (h2 : p = true → pE φ X a r fun u r1 => u = .d x f ∧ r1 = r) (h3 : p = false → pE φ X b r fun u r1 => u = .d y f ∧ r1 = r) (hk : k (.d (if p then x else y) f) r) : JV φ X (.ite c a b) r k := ⟨w_ite (pT_ok c h1) (fun h => pE_ok a (h2 h)) (fun h => pE_ok b (h3 h)) hk⟩
theorem jv_ite2 {k : AV → Rho → Prop} (h1 : pT φ X c r fun n r1 => (n = true → pE φ X a r1 k) ∧ (n = false → pE φ X b r1 k)) : JV φ X (.ite c a b) r k := ⟨w_ite2 ((pT_ok c h1).mono fun n r1 h => ⟨fun e => pE_ok a (h.1 e), fun e => pE_ok b (h.2 e)⟩)⟩
theorem jv_chain {k : AV → Rho → Prop} {o o' : Cp} {p q : Bool} {y : AV} (h : pE φ X a r fun x r1 => pE φ X b r1 fun z r2 => z = y ∧ qCp o x y r2 fun n r3 => n = p ∧ r3 = r)
    (h2 : p = true → pE φ X c r fun z r1 => qCp o' y z r1 fun n r3 => n = q ∧ r3 = r) (hk : k (.d (.bool (p && q)) false) r) : JV φ X (.chain o o' a b c) r k :=
  ⟨w_chain ((pE_ok a h).mono fun x r1 h => (pE_ok b h).mono fun z r2 h => ⟨h.1, qCp_ok h.2⟩) (fun e => (pE_ok c (h2 e)).mono fun z r1 h => qCp_ok h) hk⟩
end
/-! ### loops, comprehensions, defs, over these -/
section
variable {φ : Phi} {X : XC} {a b c e : E} {ss t u : Ss} {r : Rho} {Q : SR → Prop} {i j : Nat} {x y z : D} {f g : Bool}
theorem ifs {b : Bool} {t f ss : Ss} (h1 : b = true → pSs φ (t.app ss) r Q) (h2 : b = false → pSs φ (f.app ss) r Q) : IfS φ b t f ss r Q := ⟨⟨fun h => pSs_ok _ (h1 h), fun h => pSs_ok _ (h2 h)⟩⟩
theorem ifsT {b : Bool} {t f ss : Ss} (hb : b = true) (h1 : pSs φ (t.app ss) r Q) : IfS φ b t f ss r Q := ⟨⟨fun _ => pSs_ok _ h1, fun h => (by rw [hb] at h; cases h)⟩⟩
theorem ifsF {b : Bool} {t f ss : Ss} (hb : b = false) (h1 : pSs φ (f.app ss) r Q) : IfS φ b t f ss r Q := ⟨⟨fun h => (by rw [hb] at h; cases h), fun _ => pSs_ok _ h1⟩⟩
theorem pfor_nil {tg : Tg} {b : Ss} (h : pSs φ ss r Q) : WFor φ tg b [] r ss Q := for_nil (pSs_ok _ h)
theorem pfor_cons {tg : Tg} {b : Ss} {xs : List D} {r0 : Rho} (h0 : setT tg x r = some r0) (h : pSs φ b r0 (nxq (fun r1 => WFor φ tg b xs r1 ss Q) Q)) : WFor φ tg b (x :: xs) r ss Q := for_cons h0 (pSs_ok _ h)
theorem pfor {α : Type} {tg : Tg} {b : Ss} {cc : α → D} {xs : List α} {ds : List D} (hd : ds = xs.map cc) (I : List α → List α → Rho → Prop) (h0 : I [] xs r)
    (step : ∀ done x rest s, xs = done ++ x :: rest → I done (x :: rest) s → ∃ s0, setT tg (cc x) s = some s0 ∧ pSs φ b s0 (nxq (I (done ++ [x]) rest) Q)) (hk : ∀ s, I xs [] s → pSs φ ss s Q) : WFor φ tg b ds r ss Q :=
  for_inv hd I h0 (fun done x rest s h1 h2 => by
    obtain ⟨s0, e, h⟩ := step done x rest s h1 h2
    exact ⟨s0, e, pSs_ok _ h⟩) fun s h => pSs_ok _ (hk s h)
theorem pwhile {n : Nat} {b : Ss} (I : Nat → Rho → Prop) (k : Nat) (hk : k < n) (h0 : I k r)
    (step : ∀ m s, I m s → pT φ (exq Q) c s fun p s1 => (p = false → pSs φ ss s1 Q) ∧ (p = true → pSs φ b s1 (nxq (fun s2 => ∃ m', m' < m ∧ I m' s2) Q))) : WWhile φ c b n r ss Q :=
  while_inv I k hk h0 fun m s h => (pT_ok c (step m s h)).mono fun p s1 h => ⟨fun e => pSs_ok _ (h.1 e), fun e => pSs_ok _ (h.2 e)⟩
theorem pC_nil {k : Bool → Rho → Prop} (h : k true r) : WC φ X .nil r k := w_cN h
theorem pC_one {k : Bool → Rho → Prop} {es : Es} (h : pT φ X e r k) : WC φ X (.cons e es) r k := w_cC (pT_ok e h)
theorem p_fn {n k : Nat} {b : Ss} {vs : List SV} {P : D → Bool → List SV → Prop} (hl : vs.length = k) (hr : vs.map some ++ List.replicate (n - k) none = r) (h : pSs φ b r (FQ vs P)) : ∃ d fr os, fnV n k b φ vs = .ret d fr os ∧ P d fr os := w_fn hl hr (pSs_ok _ h)
theorem p_fnE {n k : Nat} {b : Ss} {vs : List SV} {d : D} {fr : Bool} {os : List SV} (hl : vs.length = k) (hr : vs.map some ++ List.replicate (n - k) none = r) (h : pSs φ b r (FQ vs fun d' fr' os' => d' = d ∧ fr' = fr ∧ os' = os)) : fnV n k b φ vs = .ret d fr os := w_fnE hl hr (pSs_ok _ h)
end
/-! ### calls -/
section
variable {X : XC} {r : Rho} {k : AV → Rho → Prop} {i : Nat} {x : D} {f : Bool}
theorem clp {G : Sem} {as : List AV} {vs : List SV} (h1 : argsV r as = some vs) (h2 : nodupN (lent r as) = true) (hn : noOwnV vs = true) (h3 : G vs = .ret x f vs) (hk : k (.d x f) r) : Cl G as r X k := ⟨w_cvp h1 h2 hn h3 hk⟩
theorem clF {G : Sem} {as : List AV} {vs : List SV} {xs : List D} {o' : Ob} (h3 : G (.own (.lst xs) false :: vs) = .ret x f (.own o' false :: vs)) (h1 : argsV r as = some vs) (hn : noOwnV vs = true) (hl : lent r as = []) (hk : k (.d x f) r) : ClF G (.d (.list xs) true) as r X k := ⟨w_cvF h1 hn hl h3 hk⟩
theorem clo {G : Sem} {as : List AV} {vs : List SV} {o o' : Ob} {m : Bool} (h3 : G (.own o false :: vs) = .ret x f (.own o' false :: vs)) (h0 : r[i]? = some (some (.own o m))) (h1 : argsV r as = some vs) (hn : noOwnV vs = true) (hl : lent r as = []) (hk : k (.d x f) (r.set i (some (.own o' m)))) : Cl G (.var i :: as) r X k := ⟨w_cvo h0 h1 hn hl h3 hk⟩
/-- .. with what is behind it as an own one, too -/
theorem clv {G : Sem} {as : List AV} {vs os : List SV} (h1 : argsV r as = some vs) (h2 : nodupN (lent r as) = true) (h3 : G vs = .ret x f os) (h4 : fits vs os = true) (hk : k (.d x f) (backC r as os)) : Cl G as r X k := ⟨w_cv h1 h2 h3 h4 hk⟩
end
/-! ### errors -/
section
variable {φ : Phi} {X : XC} {r : Rho} {k : AV → Rho → Prop}
theorem clx {G : Sem} {as : List AV} {vs : List SV} {c : Nat} {fs : List D} (h1 : argsV r as = some vs) (h2 : nodupN (lent r as) = true) (h3 : G vs = .exc c fs) (hk : X c fs (wipeR r (lent r as))) : Cl G as r X k := ⟨w_cvX h1 h2 h3 hk⟩
theorem p_fnX {n k : Nat} {b : Ss} {vs : List SV} {c : Nat} {fs : List D} (hl : vs.length = k) (hr : vs.map some ++ List.replicate (n - k) none = r) (h : pSs φ b r fun q => ∃ r', q = .exc c fs r') : fnV n k b φ vs = .exc c fs := w_fnX hl hr (pSs_ok _ h)
/-- what is wanted behind an except clause -/
def hq (φ : Phi) (ss : Ss) (Q : SR → Prop) : SR → Prop
  | .next r => pSs φ ss r Q
  | .ret d fr r => Q (.ret d fr r)
  | _ => False
/-- .. behind a try's body -/
inductive TQ (φ : Phi) (i : Nat) (h : List HS) (ss : Ss) (Q : SR → Prop) : SR → Prop
  | next {r : Rho} (w : pSs φ ss r Q) : TQ φ i h ss Q (.next r)
  | ret {d : D} {fr : Bool} {r : Rho} (w : Q (.ret d fr r)) : TQ φ i h ss Q (.ret d fr r)
  | exc {c : Nat} {fs : List D} {r : Rho} (l : i < r.length) (w : hq φ ss Q (goneS i (evHS c fs h (r.set i none)))) : TQ φ i h ss Q (.exc c fs r)
theorem TQ.val {i : Nat} {h : List HS} {ss : Ss} {Q : SR → Prop} {c : Nat} {fs : List D} {r : Rho} (d : D) (l : i < r.length) (e : evHS c fs h (r.set i none) = .ret d false (r.set i none)) (w : Q (.ret d false ((r.set i none).set i none))) : TQ φ i h ss Q (.exc c fs r) := .exc l (by rw [e]; exact w)
theorem ptry {b ss : Ss} {i : Nat} {h : List HS} {Q : SR → Prop} (w : pSs φ b r (TQ φ i h ss Q)) : WTry φ b i h r ss Q := ⟨by
  have w1 := (pSs_ok b w).out
  generalize evSs φ b r = q at w1 ⊢
  cases q with
  | stuck => exact w1.elim
  | next r1 =>
    cases w1 with
    | next w => exact (pSs_ok ss w).out
  | ret d fr r1 =>
    cases w1 with
    | ret w => exact w
  | exc c fs r1 =>
    cases w1 with
    | exc l w =>
      show wq (thn φ ss (if i < r1.length then goneS i (evHS c fs h (r1.set i none)) else .stuck)) Q
      rw [if_pos l]
      generalize goneS i (evHS c fs h (r1.set i none)) = g at w
      cases g with
      | next r2 => exact (pSs_ok ss w).out
      | ret d fr r2 => exact w
      | exc _ _ _ => exact w.elim
      | stuck => exact w.elim⟩
end
end Ev
/-! Data of known kinds. -/
namespace Ev
open PySem
/-! ### codes -/
/-- what stands for an a, told apart by equality -/
structure Cod {α : Type} [DecidableEq α] (c : α → D) : Prop where
  eqv : ∀ a b, PyData.eqv (c a) (c b) = decide (a = b)
theorem Cod.all {α : Type} [DecidableEq α] {c : α → D} (C : Cod c) : ∀ xs ys : List α, PyData.eqvAll (xs.map c) (ys.map c) = decide (xs = ys)
  | [], [] => rfl
  | [], _ :: _ => rfl
  | _ :: _, [] => rfl
  | x :: xs, y :: ys => by
    show (PyData.eqv (c x) (c y) && PyData.eqvAll (xs.map c) (ys.map c)) = _
    rw [C.eqv, Cod.all C xs ys]
    by_cases h : x = y <;> by_cases h2 : xs = ys <;> simp [h, h2]
theorem Cod.list {α : Type} [DecidableEq α] {c : α → D} (C : Cod c) : Cod fun xs : List α => PyData.list (xs.map c) := ⟨fun a b => C.all a b⟩
theorem Cod.tuple {α : Type} [DecidableEq α] {c : α → D} (C : Cod c) : Cod fun xs : List α => PyData.tuple (xs.map c) := ⟨fun a b => C.all a b⟩
theorem Cod.pair {α β : Type} [DecidableEq α] [DecidableEq β] {c : α → D} {e : β → D} (C : Cod c) (E : Cod e) : Cod fun p : α × β => PyData.tuple [c p.1, e p.2] := ⟨fun a b => by
  show (PyData.eqv (c a.1) (c b.1) && (PyData.eqv (e a.2) (e b.2) && true)) = _
  rw [C.eqv, E.eqv, Bool.and_true]
  rcases a with ⟨a1, a2⟩; rcases b with ⟨b1, b2⟩
  by_cases h : a1 = b1 <;> by_cases h2 : a2 = b2 <;> simp [h, h2]⟩
theorem Cod.inL {α : Type} [DecidableEq α] {c : α → D} (C : Cod c) (x : α) (xs : List α) [Decidable (x ∈ xs)] : inL (c x) (xs.map c) = decide (x ∈ xs) := by
  rw [Bool.eq_iff_iff, decide_eq_true_iff]
  unfold Ev.inL
  induction xs with
  | nil => simp
  | cons y ys ih =>
    rw [List.map_cons, List.any_cons, Bool.or_eq_true, ih, C.eqv, decide_eq_true_iff, List.mem_cons]
    exact ⟨fun h => h.imp Eq.symm id, fun h => h.imp Eq.symm id⟩
theorem codI : Cod PyData.int := ⟨eqv_int⟩
theorem codB : Cod PyData.bool := ⟨fun a b => by cases a <;> cases b <;> rfl⟩
theorem codS : Cod PyData.str := ⟨fun a b => by
  show (a == b) = _
  exact Bool.beq_eq_decide_eq a b⟩
theorem codP : Cod pairD := Cod.pair codI codI
/-- an int or none -/
def optD : Option Int → D
  | none => .none
  | some i => .int i
def optB : Option Bool → D
  | none => .none
  | some i => .bool i
theorem codO : Cod optD := ⟨fun a b => by cases a <;> cases b <;> first | rfl | exact (eqv_int _ _).trans (by simp)⟩
theorem codOB : Cod optB := ⟨fun a b => by cases a <;> cases b <;> first | rfl | (rename_i a b; cases a <;> cases b <;> rfl)⟩
def dP (ps : List (Int × Int)) : List D := ps.map pairD
def dB (bs : List Bool) : List D := bs.map PyData.bool
def dS (bs : List Str) : List D := bs.map PyData.str
def dO (bs : List (Option Int)) : List D := bs.map optD
def dOB (bs : List (Option Bool)) : List D := bs.map optB
/-- lists of tuples of ints -/
def tupI (xs : List Int) : D := .tuple (dI xs)
def dT (xs : List (List Int)) : List D := xs.map tupI
theorem codT : Cod tupI := codI.tuple
/-- a web -/
abbrev webD (n : Int) (ps : List (Int × Int)) : D := .tuple [.int n, .tuple (dP ps)]
/-! ### shapes -/
structure Sh (k : Nat) (x : D) : Prop where
  lay : x.canLay0 = true
  dep : x.depth ≤ k
theorem Sh.shaped {k : Nat} {x : D} (h : Sh k x) (hk : k ≤ 64) : SeqAt.shaped x = true := by
  unfold SeqAt.shaped
  rw [h.lay, Bool.true_and]
  exact decide_eq_true (Nat.le_trans h.dep hk)
theorem Sh.mono {k m : Nat} {x : D} (h : Sh k x) (hk : k ≤ m) : Sh m x := ⟨h.lay, Nat.le_trans h.dep hk⟩
theorem Sh.all {k : Nat} : ∀ {xs : List D}, (∀ x ∈ xs, Sh k x) → PyData.canLayAll0 xs = true ∧ PyData.depthAll xs ≤ k
  | [], _ => ⟨rfl, Nat.zero_le _⟩
  | x :: xs, h => by
    have h1 := h x (List.mem_cons_self ..)
    have h2 := Sh.all fun y hy => h y (List.mem_cons_of_mem _ hy)
    refine ⟨?_, ?_⟩
    · show (x.canLay0 && PyData.canLayAll0 xs) = true
      rw [h1.lay, h2.1]; rfl
    · have e : PyData.depthAll (x :: xs) = max x.depth (PyData.depthAll xs) := by simp only [PyData.depthAll]
      rw [e]
      exact Nat.max_le.mpr ⟨h1.dep, h2.2⟩
theorem Sh.list {k : Nat} {xs : List D} (h : ∀ x ∈ xs, Sh k x) : Sh (k + 1) (.list xs) := by
  obtain ⟨h1, h2⟩ := Sh.all h
  refine ⟨by simp only [PyData.canLay0, h1], ?_⟩
  have e : (PyData.list xs).depth = PyData.depthAll xs + 1 := by simp only [PyData.depth]
  omega
theorem Sh.tuple {k : Nat} {xs : List D} (h : ∀ x ∈ xs, Sh k x) : Sh (k + 1) (.tuple xs) := by
  obtain ⟨h1, h2⟩ := Sh.all h
  refine ⟨by simp only [PyData.canLay0, h1], ?_⟩
  have e : (PyData.tuple xs).depth = PyData.depthAll xs + 1 := by simp only [PyData.depth]
  omega
theorem sh_int (i : Int) : Sh 0 (.int i) := ⟨by simp only [PyData.canLay0], by simp [PyData.depth]⟩
theorem sh_bool (i : Bool) : Sh 0 (.bool i) := ⟨by simp only [PyData.canLay0], by simp [PyData.depth]⟩
theorem sh_none : Sh 0 .none := ⟨by simp only [PyData.canLay0], by simp [PyData.depth]⟩
theorem sh_str {s : Str} (h : PyData.strOk s = true) : Sh 0 (.str s) := ⟨by simp only [PyData.canLay0, h], by simp [PyData.depth]⟩
theorem Sh.map {α : Type} {k : Nat} {c : α → D} (h : ∀ a, Sh k (c a)) (xs : List α) : ∀ x ∈ xs.map c, Sh k x := fun x hx => by
  obtain ⟨a, _, rfl⟩ := List.mem_map.mp hx
  exact h a
theorem Sh.two {k : Nat} {x y : D} (h : Sh k x) (h2 : Sh k y) : ∀ z ∈ [x, y], Sh k z := fun z hz => by
  rcases List.mem_cons.mp hz with e | e
  · rw [e]; exact h
  · rw [List.mem_singleton.mp e]; exact h2
theorem sh_pair (p : Int × Int) : Sh 1 (pairD p) := Sh.tuple (Sh.two (sh_int _) (sh_int _))
theorem sh_opt (o : Option Int) : Sh 0 (optD o) := by cases o; exact sh_none; exact sh_int _
theorem sh_optB (o : Option Bool) : Sh 0 (optB o) := by cases o; exact sh_none; exact sh_bool _
theorem sh_dI (xs : List Int) : ∀ x ∈ dI xs, Sh 0 x := Sh.map sh_int xs
theorem sh_dB (xs : List Bool) : ∀ x ∈ dB xs, Sh 0 x := Sh.map sh_bool xs
theorem sh_dP (xs : List (Int × Int)) : ∀ x ∈ dP xs, Sh 1 x := Sh.map sh_pair xs
theorem sh_dO (xs : List (Option Int)) : ∀ x ∈ dO xs, Sh 0 x := Sh.map sh_opt xs
theorem sh_dOB (xs : List (Option Bool)) : ∀ x ∈ dOB xs, Sh 0 x := Sh.map sh_optB xs
theorem sh_tupI (xs : List Int) : Sh 1 (tupI xs) := Sh.tuple (sh_dI xs)
theorem sh_dT (xs : List (List Int)) : ∀ x ∈ dT xs, Sh 1 x := Sh.map sh_tupI xs
theorem sh_web (n : Int) (ps : List (Int × Int)) : Sh 3 (webD n ps) := Sh.tuple (Sh.two ((sh_int n).mono (by omega)) (Sh.tuple (sh_dP ps)))
theorem shd_int (i : Int) : SeqAt.shaped (.int i) = true := (sh_int i).shaped (by omega)
theorem shd_bool (i : Bool) : SeqAt.shaped (.bool i) = true := (sh_bool i).shaped (by omega)
theorem shd_none : SeqAt.shaped .none = true := sh_none.shaped (by omega)
theorem shd_pair (p : Int × Int) : SeqAt.shaped (pairD p) = true := (sh_pair p).shaped (by omega)
theorem shd_pair' (a b : Int) : SeqAt.shaped (.tuple [.int a, .int b]) = true := shd_pair (a, b)
theorem shd_LI (xs : List Int) : SeqAt.shaped (.list (dI xs)) = true := (Sh.list (sh_dI xs)).shaped (by omega)
theorem shd_TI (xs : List Int) : SeqAt.shaped (.tuple (dI xs)) = true := (Sh.tuple (sh_dI xs)).shaped (by omega)
theorem shd_LB (xs : List Bool) : SeqAt.shaped (.list (dB xs)) = true := (Sh.list (sh_dB xs)).shaped (by omega)
theorem shd_TB (xs : List Bool) : SeqAt.shaped (.tuple (dB xs)) = true := (Sh.tuple (sh_dB xs)).shaped (by omega)
theorem shd_LP (xs : List (Int × Int)) : SeqAt.shaped (.list (dP xs)) = true := (Sh.list (sh_dP xs)).shaped (by omega)
theorem shd_TP (xs : List (Int × Int)) : SeqAt.shaped (.tuple (dP xs)) = true := (Sh.tuple (sh_dP xs)).shaped (by omega)
theorem shd_LO (xs : List (Option Int)) : SeqAt.shaped (.list (dO xs)) = true := (Sh.list (sh_dO xs)).shaped (by omega)
theorem shd_TO (xs : List (Option Int)) : SeqAt.shaped (.tuple (dO xs)) = true := (Sh.tuple (sh_dO xs)).shaped (by omega)
theorem shd_LOB (xs : List (Option Bool)) : SeqAt.shaped (.list (dOB xs)) = true := (Sh.list (sh_dOB xs)).shaped (by omega)
theorem shd_LT (xs : List (List Int)) : SeqAt.shaped (.list (dT xs)) = true := (Sh.list (sh_dT xs)).shaped (by omega)
theorem shd_web (n : Int) (ps : List (Int × Int)) : SeqAt.shaped (webD n ps) = true := (sh_web n ps).shaped (by omega)
/-! ### comparisons -/
theorem cq_eq {x y : D} (hx : SeqAt.shaped x = true) (hy : SeqAt.shaped y = true) : cpD .eq x y = some (PyData.eqv x y) := by
  have e : cpD .eq x y = if SeqAt.shaped x && SeqAt.shaped y then some (PyData.eqv x y) else none := rfl
  rw [e, hx, hy]; rfl
theorem cq_ne {x y : D} (hx : SeqAt.shaped x = true) (hy : SeqAt.shaped y = true) : cpD .ne x y = some (!PyData.eqv x y) := by
  have e : cpD .ne x y = if SeqAt.shaped x && SeqAt.shaped y then some (!PyData.eqv x y) else none := rfl
  rw [e, hx, hy]; rfl
theorem cq_inT {x : D} {ys : List D} (hx : SeqAt.shaped x = true) (hy : SeqAt.shaped (.tuple ys) = true) : cpD .inT x (.tuple ys) = some (inL x ys) := by
  have e : cpD .inT x (.tuple ys) = if SeqAt.shaped x && SeqAt.shaped (.tuple ys) then some (inL x ys) else none := rfl
  rw [e, hx, hy]; rfl
theorem cq_ninT {x : D} {ys : List D} (hx : SeqAt.shaped x = true) (hy : SeqAt.shaped (.tuple ys) = true) : cpD .ninT x (.tuple ys) = some (!inL x ys) := by
  have e : cpD .ninT x (.tuple ys) = if SeqAt.shaped x && SeqAt.shaped (.tuple ys) then some (!inL x ys) else none := rfl
  rw [e, hx, hy]; rfl
theorem cq_inL {x : D} {ys : List D} (hx : SeqAt.shaped x = true) (hy : SeqAt.shaped (.list ys) = true) : cpD .inT x (.list ys) = some (inL x ys) := by
  have e : cpD .inT x (.list ys) = if SeqAt.shaped x && SeqAt.shaped (.list ys) then some (inL x ys) else none := rfl
  rw [e, hx, hy]; rfl
theorem cq_ninL {x : D} {ys : List D} (hx : SeqAt.shaped x = true) (hy : SeqAt.shaped (.list ys) = true) : cpD .ninT x (.list ys) = some (!inL x ys) := by
  have e : cpD .ninT x (.list ys) = if SeqAt.shaped x && SeqAt.shaped (.list ys) then some (!inL x ys) else none := rfl
  rw [e, hx, hy]; rfl
theorem cp_eqB (a b : Bool) : cpD .eq (.bool a) (.bool b) = some (decide (a = b)) := (cq_eq (shd_bool a) (shd_bool b)).trans (congrArg some (codB.eqv a b))
theorem cp_neB (a b : Bool) : cpD .ne (.bool a) (.bool b) = some (!decide (a = b)) := (cq_ne (shd_bool a) (shd_bool b)).trans (congrArg (fun z => some !z) (codB.eqv a b))
theorem cp_eqTI (a b : List Int) : cpD .eq (.tuple (dI a)) (.tuple (dI b)) = some (decide (a = b)) := (cq_eq (shd_TI a) (shd_TI b)).trans (congrArg some (codI.tuple.eqv a b))
theorem cp_neTI (a b : List Int) : cpD .ne (.tuple (dI a)) (.tuple (dI b)) = some (!decide (a = b)) := (cq_ne (shd_TI a) (shd_TI b)).trans (congrArg (fun z => some !z) (codI.tuple.eqv a b))
theorem cp_eqLO (a b : List (Option Int)) : cpD .eq (.list (dO a)) (.list (dO b)) = some (decide (a = b)) := (cq_eq (shd_LO a) (shd_LO b)).trans (congrArg some (codO.list.eqv a b))
theorem cp_neLOB (a b : List (Option Bool)) : cpD .ne (.list (dOB a)) (.list (dOB b)) = some (!decide (a = b)) := (cq_ne (shd_LOB a) (shd_LOB b)).trans (congrArg (fun z => some !z) (codOB.list.eqv a b))
theorem cp_neTO (a b : List (Option Int)) : cpD .ne (.tuple (dO a)) (.tuple (dO b)) = some (!decide (a = b)) := (cq_ne (shd_TO a) (shd_TO b)).trans (congrArg (fun z => some !z) (codO.tuple.eqv a b))
theorem cp_eqTO (a b : List (Option Int)) : cpD .eq (.tuple (dO a)) (.tuple (dO b)) = some (decide (a = b)) := (cq_eq (shd_TO a) (shd_TO b)).trans (congrArg some (codO.tuple.eqv a b))
theorem cp_neLT (a b : List (List Int)) : cpD .ne (.list (dT a)) (.list (dT b)) = some (!decide (a = b)) := (cq_ne (shd_LT a) (shd_LT b)).trans (congrArg (fun z => some !z) (codT.list.eqv a b))
theorem cp_inTI (i : Int) (xs : List Int) : cpD .inT (.int i) (.tuple (dI xs)) = some (decide (i ∈ xs)) := (cq_inT (shd_int i) (shd_TI xs)).trans (congrArg some (codI.inL i xs))
theorem cp_ninTI (i : Int) (xs : List Int) : cpD .ninT (.int i) (.tuple (dI xs)) = some (!decide (i ∈ xs)) := (cq_ninT (shd_int i) (shd_TI xs)).trans (congrArg (fun z => some !z) (codI.inL i xs))
theorem cp_inLI (i : Int) (xs : List Int) : cpD .inT (.int i) (.list (dI xs)) = some (decide (i ∈ xs)) := (cq_inL (shd_int i) (shd_LI xs)).trans (congrArg some (codI.inL i xs))
theorem cp_ninLI (i : Int) (xs : List Int) : cpD .ninT (.int i) (.list (dI xs)) = some (!decide (i ∈ xs)) := (cq_ninL (shd_int i) (shd_LI xs)).trans (congrArg (fun z => some !z) (codI.inL i xs))
theorem cp_inTP (a b : Int) (xs : List (Int × Int)) : cpD .inT (.tuple [.int a, .int b]) (.tuple (dP xs)) = some (decide ((a, b) ∈ xs)) := (cq_inT (shd_pair' a b) (shd_TP xs)).trans (congrArg some (codP.inL (a, b) xs))
theorem cp_ninTP (a b : Int) (xs : List (Int × Int)) : cpD .ninT (.tuple [.int a, .int b]) (.tuple (dP xs)) = some (!decide ((a, b) ∈ xs)) := (cq_ninT (shd_pair' a b) (shd_TP xs)).trans (congrArg (fun z => some !z) (codP.inL (a, b) xs))
theorem cp_inLP (a b : Int) (xs : List (Int × Int)) : cpD .inT (.tuple [.int a, .int b]) (.list (dP xs)) = some (decide ((a, b) ∈ xs)) := (cq_inL (shd_pair' a b) (shd_LP xs)).trans (congrArg some (codP.inL (a, b) xs))
theorem cp_inLB (i : Bool) (xs : List Bool) : cpD .inT (.bool i) (.list (dB xs)) = some (decide (i ∈ xs)) := (cq_inL (shd_bool i) (shd_LB xs)).trans (congrArg some (codB.inL i xs))
theorem cp_ninLB (i : Bool) (xs : List Bool) : cpD .ninT (.bool i) (.list (dB xs)) = some (!decide (i ∈ xs)) := (cq_ninL (shd_bool i) (shd_LB xs)).trans (congrArg (fun z => some !z) (codB.inL i xs))
theorem cp_inTB (i : Bool) (xs : List Bool) : cpD .inT (.bool i) (.tuple (dB xs)) = some (decide (i ∈ xs)) := (cq_inT (shd_bool i) (shd_TB xs)).trans (congrArg some (codB.inL i xs))
theorem cp_inLOBb (i : Bool) (xs : List (Option Bool)) : cpD .inT (.bool i) (.list (dOB xs)) = some (decide (some i ∈ xs)) := (cq_inL (shd_bool i) (shd_LOB xs)).trans (congrArg some (codOB.inL (some i) xs))
theorem cp_inLOBn (xs : List (Option Bool)) : cpD .inT .none (.list (dOB xs)) = some (decide (none ∈ xs)) := (cq_inL shd_none (shd_LOB xs)).trans (congrArg some (codOB.inL none xs))
theorem cp_ninLOBn (xs : List (Option Bool)) : cpD .ninT .none (.list (dOB xs)) = some (!decide (none ∈ xs)) := (cq_ninL shd_none (shd_LOB xs)).trans (congrArg (fun z => some !z) (codOB.inL none xs))
theorem cp_inLOi (i : Int) (xs : List (Option Int)) : cpD .inT (.int i) (.list (dO xs)) = some (decide (some i ∈ xs)) := (cq_inL (shd_int i) (shd_LO xs)).trans (congrArg some (codO.inL (some i) xs))
theorem cp_inLOn (xs : List (Option Int)) : cpD .inT .none (.list (dO xs)) = some (decide (none ∈ xs)) := (cq_inL shd_none (shd_LO xs)).trans (congrArg some (codO.inL none xs))
theorem cp_ninLOn (xs : List (Option Int)) : cpD .ninT .none (.list (dO xs)) = some (!decide (none ∈ xs)) := (cq_ninL shd_none (shd_LO xs)).trans (congrArg (fun z => some !z) (codO.inL none xs))
theorem cq_isN (x : D) : cpD .isN x .none = some (match x with
    | .none => true
    | _ => false) := by cases x <;> rfl
theorem cp_isNO (o : Option Int) : cpD .isN (optD o) .none = some (decide (o = none)) := by cases o <;> rfl
theorem cp_notNO (o : Option Int) : cpD .notN (optD o) .none = some (!decide (o = none)) := by cases o <;> rfl
theorem cp_isNOB (o : Option Bool) : cpD .isN (optB o) .none = some (decide (o = none)) := by cases o <;> rfl
theorem cp_notNOB (o : Option Bool) : cpD .notN (optB o) .none = some (!decide (o = none)) := by cases o <;> rfl
/-! ### operators with bounds -/
theorem o2_mulLI {xs : List D} {k : Int} (h0 : 0 ≤ k) (h1 : k ≤ 1000) (h2 : xs.length ≤ 1000) : op2D .mul (.list xs) (.int k) = some (.list (List.replicate k.toNat xs).flatten, true) := by
  have e : op2D .mul (.list xs) (.int k) = if decide (0 ≤ k) && decide (k.natAbs ≤ line) && decide (xs.length * k.toNat ≤ line) then some (.list (List.replicate k.toNat xs).flatten, true) else none := rfl
  have h3 : xs.length * k.toNat ≤ 1000 * 1000 := Nat.mul_le_mul h2 (by omega)
  rw [e, decide_eq_true h0, decide_eq_true (by unfold line; omega : k.natAbs ≤ line), decide_eq_true (by unfold line; omega : xs.length * k.toNat ≤ line)]
  rfl
theorem rep1 {α : Type} (k : Nat) (x : α) : (List.replicate k [x]).flatten = List.replicate k x := by
  induction k with
  | zero => rfl
  | succ k ih => rw [List.replicate_succ, List.flatten_cons, ih]; rfl
/-- [x] * k -/
theorem o2_mulL1 {x : D} {k : Int} (h0 : 0 ≤ k) (h1 : k ≤ 1000) : op2D .mul (.list [x]) (.int k) = some (.list (List.replicate k.toNat x), true) := by
  rw [o2_mulLI h0 h1 (by simp), rep1]
theorem o2_mulT1 {x : D} {k : Int} (h0 : 1 ≤ k) (h1 : k ≤ 1000) : op2D .mul (.tuple [x]) (.int k) = some (.tuple (List.replicate k.toNat x), false) := by
  have e : op2D .mul (.tuple [x]) (.int k) = if true && decide (1 ≤ k) && decide (k.natAbs ≤ 1000) && decide ([x].length ≤ 1000) then some (.tuple (List.replicate k.toNat [x]).flatten, false) else none := rfl
  rw [e, decide_eq_true h0, decide_eq_true (by omega : k.natAbs ≤ 1000), rep1]
  rfl
theorem o2_mulS {a b : Int} (h : a.natAbs < 2 ^ 60 ∨ b.natAbs < 2 ^ 60) : op2D .mul (.int a) (.int b) = some (.int (a * b), false) := by
  rcases h with h | h
  · exact o2_mulL a b (decide_eq_true (by omega))
  · exact o2_mulR a b (decide_eq_true (by omega))
/-! ### places -/
/-- the item at a place -/
def gI {α : Type} (d : α) (xs : List α) (i : Int) : α := xs.getD i.toNat d
theorem atI_gI {α : Type} {xs : List α} {i : Int} (d : α) (h0 : 0 ≤ i) (h1 : i < xs.length) : L2.atI xs i = some (gI d xs i) := by
  have hlt : i.toNat < xs.length := by omega
  have e : L2.ixN xs.length i = some i.toNat := by
    unfold L2.ixN
    rw [if_pos h0, if_pos h1]
  unfold L2.atI
  rw [e]
  show xs[i.toNat]? = _
  unfold gI
  rw [List.getD_eq_getElem?_getD, List.getElem?_eq_getElem hlt]
  rfl
theorem gI_map {α : Type} {c : α → D} (d : α) (xs : List α) (i : Int) (h0 : 0 ≤ i) (h1 : i < xs.length) (d2 : D) : gI d2 (xs.map c) i = c (gI d xs i) := by
  have hlt : i.toNat < xs.length := by omega
  unfold gI
  rw [List.getD_eq_getElem?_getD, List.getD_eq_getElem?_getD, List.getElem?_map, List.getElem?_eq_getElem hlt]
  rfl
theorem atI_map {α : Type} {c : α → D} {xs : List α} {i : Int} (d : α) (h0 : 0 ≤ i) (h1 : i < xs.length) : L2.atI (xs.map c) i = some (c (gI d xs i)) := by
  rw [atI_gI (c d) h0 (by rw [List.length_map]; exact h1), gI_map d xs i h0 h1]
theorem gI_mem {α : Type} {d : α} {xs : List α} {i : Int} (h0 : 0 ≤ i) (h1 : i < xs.length) : gI d xs i ∈ xs := by
  have hlt : i.toNat < xs.length := by omega
  unfold gI
  rw [List.getD_eq_getElem?_getD, List.getElem?_eq_getElem hlt]
  exact List.getElem_mem hlt
theorem ixN_ok {n : Nat} {i : Int} (h0 : 0 ≤ i) (h1 : i < n) : L2.ixN n i = some i.toNat := by
  unfold L2.ixN
  rw [if_pos h0, if_pos h1]
theorem boolsD_map : ∀ xs : List Bool, boolsD (dB xs) = some xs
  | [] => rfl
  | x :: xs => by
    show (boolsD (dB xs)).map (x :: ·) = _
    rw [boolsD_map xs]
    rfl
theorem pairsD_map : ∀ xs : List (Int × Int), pairsD (dP xs) = some xs
  | [] => rfl
  | x :: xs => by
    show (pairsD (dP xs)).map ((x.1, x.2) :: ·) = _
    rw [pairsD_map xs]
    rfl
theorem bq_all (xs : List Bool) : biD .all (.list (dB xs)) = some (.bool (xs.all id), false) := by
  have e : biD .all (.list (dB xs)) = (boolsD (dB xs)).map fun bs => (PyData.bool (bs.all id), false) := rfl
  rw [e, boolsD_map]; rfl
theorem bq_any (xs : List Bool) : biD .any (.list (dB xs)) = some (.bool (xs.any id), false) := by
  have e : biD .any (.list (dB xs)) = (boolsD (dB xs)).map fun bs => (PyData.bool (bs.any id), false) := rfl
  rw [e, boolsD_map]; rfl
theorem bq_all' {α : Type} (xs : List α) (g : α → Bool) : biD .all (.list (xs.map fun x => .bool (g x))) = some (.bool (xs.all g), false) := by
  have e : (xs.map fun x => PyData.bool (g x)) = dB (xs.map g) := by simp [dB, List.map_map, Function.comp_def]
  rw [e, bq_all, List.all_map]; rfl
theorem bq_any' {α : Type} (xs : List α) (g : α → Bool) : biD .any (.list (xs.map fun x => .bool (g x))) = some (.bool (xs.any g), false) := by
  have e : (xs.map fun x => PyData.bool (g x)) = dB (xs.map g) := by simp [dB, List.map_map, Function.comp_def]
  rw [e, bq_any, List.any_map]; rfl
theorem bi_sortI (xs : List Int) : biD .sorted (.list (dI xs)) = some (.list (dI (sortI xs)), true) := by
  have e : biD .sorted (.list (dI xs)) = (sortedD (dI xs)).map fun ys => (PyData.list ys, true) := rfl
  rw [e]; unfold sortedD; rw [intsD_map]; rfl
theorem sortedD_P (xs : List (Int × Int)) : sortedD (dP xs) = some (dP (sortP xs)) := by
  unfold sortedD
  cases xs with
  | nil => rfl
  | cons x xs =>
    have e : intsD (dP (x :: xs)) = none := rfl
    rw [e]
    show (pairsD (dP (x :: xs))).map _ = _
    rw [pairsD_map]; rfl
theorem bi_sortP (xs : List (Int × Int)) : biD .sorted (.list (dP xs)) = some (.list (dP (sortP xs)), true) := by
  have e : biD .sorted (.list (dP xs)) = (sortedD (dP xs)).map fun ys => (PyData.list ys, true) := rfl
  rw [e, sortedD_P]; rfl
theorem itemsD_L (xs : List D) : itemsD (.list xs) = some xs := rfl
theorem itemsD_T (xs : List D) : itemsD (.tuple xs) = some xs := rfl
/-! ### slices -/
theorem sl_T (xs : List D) (a b : Option Int) : slD a b (.tuple xs) = some (.tuple ((xs.drop (HT.sIx xs.length 0 a)).take (HT.sIx xs.length xs.length b - HT.sIx xs.length 0 a)), false) := rfl
theorem sl_L (xs : List D) (a b : Option Int) : slD a b (.list xs) = some (.list ((xs.drop (HT.sIx xs.length 0 a)).take (HT.sIx xs.length xs.length b - HT.sIx xs.length 0 a)), true) := rfl
/-- xs[:k] -/
theorem sl_Tk (xs : List D) {k : Int} (h : 0 ≤ k) : slD none (some k) (.tuple xs) = some (.tuple (xs.take k.toNat), false) := by
  have e : HT.sIx xs.length xs.length (some k) = min k.toNat xs.length := by
    show (if k < 0 then _ else _) = _
    rw [if_neg (by omega)]
  rw [sl_T, e, HT.sIx_none, List.drop_zero, Nat.sub_zero, ← List.take_eq_take_min]
theorem sl_Lk (xs : List D) {k : Int} (h : 0 ≤ k) : slD none (some k) (.list xs) = some (.list (xs.take k.toNat), true) := by
  have e : HT.sIx xs.length xs.length (some k) = min k.toNat xs.length := by
    show (if k < 0 then _ else _) = _
    rw [if_neg (by omega)]
  rw [sl_L, e, HT.sIx_none, List.drop_zero, Nat.sub_zero, ← List.take_eq_take_min]
theorem sl_Td (xs : List D) {k : Int} (h : 0 ≤ k) : slD (some k) none (.tuple xs) = some (.tuple (xs.drop k.toNat), false) := by
  have e : HT.sIx xs.length 0 (some k) = min k.toNat xs.length := by
    show (if k < 0 then _ else _) = _
    rw [if_neg (by omega)]
  rw [sl_T, e, HT.sIx_none]
  congr 3
  rw [List.take_of_length_le (by simp)]
  by_cases h : k.toNat ≤ xs.length
  · rw [Nat.min_eq_left h]
  · rw [Nat.min_eq_right (by omega), List.drop_of_length_le (Nat.le_refl _), List.drop_of_length_le (by omega)]
theorem sl_Ld (xs : List D) {k : Int} (h : 0 ≤ k) : slD (some k) none (.list xs) = some (.list (xs.drop k.toNat), true) := by
  have e : HT.sIx xs.length 0 (some k) = min k.toNat xs.length := by
    show (if k < 0 then _ else _) = _
    rw [if_neg (by omega)]
  rw [sl_L, e, HT.sIx_none]
  congr 3
  rw [List.take_of_length_le (by simp)]
  by_cases h : k.toNat ≤ xs.length
  · rw [Nat.min_eq_left h]
  · rw [Nat.min_eq_right (by omega), List.drop_of_length_le (Nat.le_refl _), List.drop_of_length_le (by omega)]
/-! ### dicts -/
mutual
theorem sameD_refl : ∀ x : D, sameD x x = true
  | .none => by simp [sameD]
  | .bool b => by simp [sameD]
  | .int b => by simp [sameD]
  | .str b => by simp [sameD]
  | .list xs => by simp [sameD, sameL_refl xs]
  | .tuple xs => by simp [sameD, sameL_refl xs]
  | .dict ps => by simp [sameD, sameP_refl ps]
theorem sameL_refl : ∀ xs : List D, sameL xs xs = true
  | [] => by simp [sameL]
  | x :: xs => by simp [sameL, sameD_refl x, sameL_refl xs]
theorem sameP_refl : ∀ xs : List (D × D), sameP xs xs = true
  | [] => by simp [sameP]
  | (x, y) :: xs => by simp [sameP, sameD_refl x, sameD_refl y, sameP_refl xs]
end
theorem stands_own {r : Rho} {i : Nat} {o : Ob} {m : Bool} (h : r[i]? = some (some (.own o m))) : stands (some (i, obD o)) r = true := by
  simp only [stands, h, sameD_refl]
end Ev
namespace Ev
open PySem
theorem dP_len (xs : List (Int × Int)) : (dP xs).length = xs.length := by simp [dP]
theorem dB_len (xs : List Bool) : (dB xs).length = xs.length := by simp [dB]
theorem dO_len (xs : List (Option Int)) : (dO xs).length = xs.length := by simp [dO]
theorem dOB_len (xs : List (Option Bool)) : (dOB xs).length = xs.length := by simp [dOB]
theorem dT_len (xs : List (List Int)) : (dT xs).length = xs.length := by simp [dT]
theorem dP_app (xs ys : List (Int × Int)) : dP xs ++ dP ys = dP (xs ++ ys) := by simp [dP]
theorem dB_app (xs ys : List Bool) : dB xs ++ dB ys = dB (xs ++ ys) := by simp [dB]
theorem dO_app (xs ys : List (Option Int)) : dO xs ++ dO ys = dO (xs ++ ys) := by simp [dO]
theorem dP_take (n : Nat) (xs : List (Int × Int)) : (dP xs).take n = dP (xs.take n) := by simp [dP, List.map_take]
theorem dP_drop (n : Nat) (xs : List (Int × Int)) : (dP xs).drop n = dP (xs.drop n) := by simp [dP, List.map_drop]
theorem dB_take (n : Nat) (xs : List Bool) : (dB xs).take n = dB (xs.take n) := by simp [dB, List.map_take]
theorem dB_drop (n : Nat) (xs : List Bool) : (dB xs).drop n = dB (xs.drop n) := by simp [dB, List.map_drop]
theorem line_le {n : Nat} (h : n ≤ 10000000) : n ≤ line := by unfold line; omega
section
variable {φ : Phi} {X : XC} {cond elt : E} {r : Rho} {k : AV → Rho → Prop} {i j : Nat} {chk : Option (Nat × D)}
theorem eo {P : D → Rho → Prop} (h : pE φ X elt r fun x r1 => qFz x r1 P) : WD φ X elt r P := pD_ok (e := elt) h
theorem coI {xs : List Int} {p : Int → Bool} {g : Int → D} (hn : noOwn r [i] = true) (hl : xs.length ≤ line) (hs : stands chk (r.set i none) = true)
    (hc : ∀ x ∈ xs, pT φ XF cond (r.set i (some (.d (.int x)))) fun b s => b = p x ∧ s = r.set i (some (.d (.int x))))
    (he : ∀ x ∈ xs, p x = true → pE φ XF elt (r.set i (some (.d (.int x)))) fun x' r1 => qFz x' r1 fun y s => y = g x ∧ s = r.set i (some (.d (.int x))))
    (hk : k (.d (.list ((xs.filter p).map g)) true) r) : WComp φ X (.one i) (.cons cond .nil) elt (dI xs, chk) r k := w_comp1 rfl hn hl hs (fun x hx => pC_one (hc x hx)) (fun x hx hp => eo (he x hx hp)) hk
theorem coIn {xs : List Int} {g : Int → D} (hn : noOwn r [i] = true) (hl : xs.length ≤ line) (hs : stands chk (r.set i none) = true)
    (he : ∀ x ∈ xs, pE φ XF elt (r.set i (some (.d (.int x)))) fun x' r1 => qFz x' r1 fun y s => y = g x ∧ s = r.set i (some (.d (.int x))))
    (hk : k (.d (.list (xs.map g)) true) r) : WComp φ X (.one i) .nil elt (dI xs, chk) r k := w_comp1n rfl hn hl hs (fun x hx => eo (he x hx)) hk
theorem coD {xs : List D} {p : D → Bool} {g : D → D} (hn : noOwn r [i] = true) (hl : xs.length ≤ line) (hs : stands chk (r.set i none) = true)
    (hc : ∀ x ∈ xs, pT φ XF cond (r.set i (some (.d x))) fun b s => b = p x ∧ s = r.set i (some (.d x)))
    (he : ∀ x ∈ xs, p x = true → pE φ XF elt (r.set i (some (.d x))) fun x' r1 => qFz x' r1 fun y s => y = g x ∧ s = r.set i (some (.d x)))
    (hk : k (.d (.list ((xs.filter p).map g)) true) r) : WComp φ X (.one i) (.cons cond .nil) elt (xs, chk) r k := w_comp1 (cc := fun x => x) (by simp) hn hl hs (fun x hx => pC_one (hc x hx)) (fun x hx hp => eo (he x hx hp)) hk
theorem coDn {xs : List D} {g : D → D} (hn : noOwn r [i] = true) (hl : xs.length ≤ line) (hs : stands chk (r.set i none) = true)
    (he : ∀ x ∈ xs, pE φ XF elt (r.set i (some (.d x))) fun x' r1 => qFz x' r1 fun y s => y = g x ∧ s = r.set i (some (.d x)))
    (hk : k (.d (.list (xs.map g)) true) r) : WComp φ X (.one i) .nil elt (xs, chk) r k := w_comp1n (cc := fun x => x) (by simp) hn hl hs (fun x hx => eo (he x hx)) hk
theorem coQ {xs : List (Int × Int)} {p : (Int × Int) → Bool} {g : (Int × Int) → D} (hn : noOwn r [i] = true) (hl : xs.length ≤ line) (hs : stands chk (r.set i none) = true)
    (hc : ∀ x ∈ xs, pT φ XF cond (r.set i (some (.d (.tuple [.int x.1, .int x.2])))) fun b s => b = p x ∧ s = r.set i (some (.d (.tuple [.int x.1, .int x.2]))))
    (he : ∀ x ∈ xs, p x = true → pE φ XF elt (r.set i (some (.d (.tuple [.int x.1, .int x.2])))) fun x' r1 => qFz x' r1 fun y s => y = g x ∧ s = r.set i (some (.d (.tuple [.int x.1, .int x.2]))))
    (hk : k (.d (.list ((xs.filter p).map g)) true) r) : WComp φ X (.one i) (.cons cond .nil) elt (dP xs, chk) r k := w_comp1 (cc := pairD) rfl hn hl hs (fun x hx => pC_one (hc x hx)) (fun x hx hp => eo (he x hx hp)) hk
theorem coQn {xs : List (Int × Int)} {g : (Int × Int) → D} (hn : noOwn r [i] = true) (hl : xs.length ≤ line) (hs : stands chk (r.set i none) = true)
    (he : ∀ x ∈ xs, pE φ XF elt (r.set i (some (.d (.tuple [.int x.1, .int x.2])))) fun x' r1 => qFz x' r1 fun y s => y = g x ∧ s = r.set i (some (.d (.tuple [.int x.1, .int x.2]))))
    (hk : k (.d (.list (xs.map g)) true) r) : WComp φ X (.one i) .nil elt (dP xs, chk) r k := w_comp1n (cc := pairD) rfl hn hl hs (fun x hx => eo (he x hx)) hk
theorem coT {xs : List (List Int)} {p : (List Int) → Bool} {g : (List Int) → D} (hn : noOwn r [i] = true) (hl : xs.length ≤ line) (hs : stands chk (r.set i none) = true)
    (hc : ∀ x ∈ xs, pT φ XF cond (r.set i (some (.d (.tuple (dI x))))) fun b s => b = p x ∧ s = r.set i (some (.d (.tuple (dI x)))))
    (he : ∀ x ∈ xs, p x = true → pE φ XF elt (r.set i (some (.d (.tuple (dI x))))) fun x' r1 => qFz x' r1 fun y s => y = g x ∧ s = r.set i (some (.d (.tuple (dI x)))))
    (hk : k (.d (.list ((xs.filter p).map g)) true) r) : WComp φ X (.one i) (.cons cond .nil) elt (dT xs, chk) r k := w_comp1 (cc := tupI) rfl hn hl hs (fun x hx => pC_one (hc x hx)) (fun x hx hp => eo (he x hx hp)) hk
theorem coTn {xs : List (List Int)} {g : (List Int) → D} (hn : noOwn r [i] = true) (hl : xs.length ≤ line) (hs : stands chk (r.set i none) = true)
    (he : ∀ x ∈ xs, pE φ XF elt (r.set i (some (.d (.tuple (dI x))))) fun x' r1 => qFz x' r1 fun y s => y = g x ∧ s = r.set i (some (.d (.tuple (dI x)))))
    (hk : k (.d (.list (xs.map g)) true) r) : WComp φ X (.one i) .nil elt (dT xs, chk) r k := w_comp1n (cc := tupI) rfl hn hl hs (fun x hx => eo (he x hx)) hk
theorem coB {xs : List Bool} {p : Bool → Bool} {g : Bool → D} (hn : noOwn r [i] = true) (hl : xs.length ≤ line) (hs : stands chk (r.set i none) = true)
    (hc : ∀ x ∈ xs, pT φ XF cond (r.set i (some (.d (.bool x)))) fun b s => b = p x ∧ s = r.set i (some (.d (.bool x))))
    (he : ∀ x ∈ xs, p x = true → pE φ XF elt (r.set i (some (.d (.bool x)))) fun x' r1 => qFz x' r1 fun y s => y = g x ∧ s = r.set i (some (.d (.bool x))))
    (hk : k (.d (.list ((xs.filter p).map g)) true) r) : WComp φ X (.one i) (.cons cond .nil) elt (dB xs, chk) r k := w_comp1 rfl hn hl hs (fun x hx => pC_one (hc x hx)) (fun x hx hp => eo (he x hx hp)) hk
theorem coBn {xs : List Bool} {g : Bool → D} (hn : noOwn r [i] = true) (hl : xs.length ≤ line) (hs : stands chk (r.set i none) = true)
    (he : ∀ x ∈ xs, pE φ XF elt (r.set i (some (.d (.bool x)))) fun x' r1 => qFz x' r1 fun y s => y = g x ∧ s = r.set i (some (.d (.bool x))))
    (hk : k (.d (.list (xs.map g)) true) r) : WComp φ X (.one i) .nil elt (dB xs, chk) r k := w_comp1n rfl hn hl hs (fun x hx => eo (he x hx)) hk
theorem coP {xs : List (Int × Int)} {p : Int × Int → Bool} {g : Int × Int → D} (hij : i ≠ j) (hn : noOwn r [i, j] = true) (hl : xs.length ≤ line) (hs : stands chk ((r.set j none).set i none) = true)
    (hc : ∀ x ∈ xs, pT φ XF cond ((r.set i (some (.d (.int x.1)))).set j (some (.d (.int x.2)))) fun b s => b = p x ∧ s = (r.set i (some (.d (.int x.1)))).set j (some (.d (.int x.2))))
    (he : ∀ x ∈ xs, p x = true → pE φ XF elt ((r.set i (some (.d (.int x.1)))).set j (some (.d (.int x.2)))) fun x' r1 => qFz x' r1 fun y s => y = g x ∧ s = (r.set i (some (.d (.int x.1)))).set j (some (.d (.int x.2))))
    (hk : k (.d (.list ((xs.filter p).map g)) true) r) : WComp φ X (.two i j) (.cons cond .nil) elt (dP xs, chk) r k := w_comp2 rfl hij hn hl hs (fun x hx => pC_one (hc x hx)) (fun x hx hp => eo (he x hx hp)) hk
theorem coPn {xs : List (Int × Int)} {g : Int × Int → D} (hij : i ≠ j) (hn : noOwn r [i, j] = true) (hl : xs.length ≤ line) (hs : stands chk ((r.set j none).set i none) = true)
    (he : ∀ x ∈ xs, pE φ XF elt ((r.set i (some (.d (.int x.1)))).set j (some (.d (.int x.2)))) fun x' r1 => qFz x' r1 fun y s => y = g x ∧ s = (r.set i (some (.d (.int x.1)))).set j (some (.d (.int x.2))))
    (hk : k (.d (.list (xs.map g)) true) r) : WComp φ X (.two i j) .nil elt (dP xs, chk) r k := w_comp2n rfl hij hn hl hs (fun x hx => eo (he x hx)) hk
/-- over a list, by what is left; what is made so far -/
theorem cInv {α : Type} {cc : α → D} {xs : List α} {ds : List D} (hd : ds = xs.map cc) (I : List D → List α → Rho → Prop) (hn : noOwn r [i] = true) (hl : xs.length ≤ line) (h0 : I [] xs (r.set i none)) (hs : ∀ ys rest s, I ys rest s → stands chk s = true)
    (step : ∀ ys x rest s, I ys (x :: rest) s → pE φ XF elt (s.set i (some (.d (cc x)))) fun x' r1 => qFz x' r1 fun y s2 => I (ys ++ [y]) rest (s2.set i none))
    (hk : ∀ ys s, I ys [] s → k (.d (.list ys) true) (s.set i ((r[i]?).getD none))) : WComp φ X (.one i) .nil elt (ds, chk) r k :=
  w_compI hd I hn hl h0 hs (fun ys x rest s h => ⟨_, rfl, pC_nil ⟨fun e => (by cases e), fun _ => eo (step ys x rest s h)⟩⟩) hk
theorem cInvC {α : Type} {cc : α → D} {xs : List α} {ds : List D} (hd : ds = xs.map cc) (I : List D → List α → Rho → Prop) (hn : noOwn r [i] = true) (hl : xs.length ≤ line) (h0 : I [] xs (r.set i none)) (hs : ∀ ys rest s, I ys rest s → stands chk s = true)
    (step : ∀ ys x rest s, I ys (x :: rest) s → pT φ XF cond (s.set i (some (.d (cc x)))) fun b s1 => (b = false → I ys rest (s1.set i none)) ∧ (b = true → pE φ XF elt s1 fun x' r1 => qFz x' r1 fun y s2 => I (ys ++ [y]) rest (s2.set i none)))
    (hk : ∀ ys s, I ys [] s → k (.d (.list ys) true) (s.set i ((r[i]?).getD none))) : WComp φ X (.one i) (.cons cond .nil) elt (ds, chk) r k :=
  w_compI hd I hn hl h0 hs (fun ys x rest s h => ⟨_, rfl, w_cC ((pT_ok cond (step ys x rest s h)).mono fun b s1 h => ⟨h.1, fun e => eo (h.2 e)⟩)⟩) hk
end
/-! ### webs -/
structure IsWeb (n : Int) (ps : List (Int × Int)) : Prop where
  n1 : 1 ≤ n
  n2 : n ≤ 40
  len : ps.length ≤ 200
  ok : ∀ p ∈ ps, 0 ≤ p.1 ∧ p.1 < n ∧ 0 ≤ p.2 ∧ p.2 < n ∧ p.1 ≠ p.2
  srt : ps.Pairwise fun p q => lexP p q = true
/-- the places to which a place leads -/
def leads (ps : List (Int × Int)) (i : Int) : List Int := (ps.filter fun p => decide (p.1 = i)).map (·.2)
theorem mem_leads {ps : List (Int × Int)} {i j : Int} : j ∈ leads ps i ↔ (i, j) ∈ ps := by
  unfold leads
  simp only [List.mem_map, List.mem_filter, decide_eq_true_eq]
  constructor
  · rintro ⟨⟨a, b⟩, ⟨h1, h2⟩, h3⟩
    cases h2; cases h3; exact h1
  · intro h; exact ⟨(i, j), ⟨h, rfl⟩, rfl⟩
theorem IsWeb.leads {n : Int} {ps : List (Int × Int)} (w : IsWeb n ps) {i j : Int} (h : j ∈ leads ps i) : 0 ≤ j ∧ j < n := by
  have := w.ok _ (mem_leads.mp h)
  exact ⟨this.2.2.1, this.2.2.2.1⟩
theorem leads_len (ps : List (Int × Int)) (i : Int) : (leads ps i).length ≤ ps.length := by
  unfold Ev.leads
  rw [List.length_map]
  exact List.length_filter_le _ _
theorem dI_filter_map {α : Type} (l : List α) (f : α → Int) : l.map (fun x => PyData.int (f x)) = dI (l.map f) := by simp [dI, List.map_map, Function.comp_def]
theorem dB_map {α : Type} (l : List α) (f : α → Bool) : l.map (fun x => PyData.bool (f x)) = dB (l.map f) := by simp [dB, List.map_map, Function.comp_def]
/-- a whole number -/
def whole (x : D) : Bool := isiD x .int && !isiD x .bool
theorem whole_int (i : Int) : whole (.int i) = true := rfl
theorem whole_iff {x : D} : whole x = true ↔ ∃ i, x = .int i := by
  cases x <;> simp [whole, isiD]
end Ev
namespace Ev
open PySem
/-! ### pens -/
def Pt (p : Int × Int × Int) : Ob := .lst [.int p.1, .int p.2.1, .int p.2.2]
section
variable {X : XC} {r : Rho} {k : AV → Rho → Prop} {i : Nat}
theorem dr {G : Sem} {m : Bool} {n : Int} (hd : IsDraw G) {p : Int × Int × Int} (h0 : r[i]? = some (some (.own (Pt p) m))) (hn : 0 < n) (hn2 : n < 10 ^ 80) (hk : ∀ (w : Int) (p' : Int × Int × Int), 0 ≤ w → w < n → k (.d (.int w) false) (r.set i (some (.own (Pt p') m)))) : Cl G [.var i, .d (.int n) false] r X k := by
  obtain ⟨w, p', q', s', w0, w1, e⟩ := hd p.1 p.2.1 p.2.2 n hn hn2
  exact clo e h0 (vs := [.d (.int n)]) rfl rfl rfl (hk w (p', q', s') w0 w1)
end
/-! ### dicts whose keys are pairs -/
theorem sameD_pair (p q : Int × Int) : sameD (pairD p) (pairD q) = decide (p = q) := by
  obtain ⟨a, b⟩ := p
  obtain ⟨c, d⟩ := q
  show ((a == c) && ((b == d) && true)) = _
  rw [Bool.and_true]
  by_cases h : a = c <;> by_cases h2 : b = d <;> simp [h, h2]
theorem keyT_pair (p : Int × Int) : keyT (pairD p) = true := rfl
theorem dput_keys {kvs : List (D × D)} {ps : List (Int × Int)} (h : kvs.map (·.1) = dP ps) (q : Int × Int) (v : D) : (dput (pairD q) v kvs).map (·.1) = dP (if q ∈ ps then ps else ps ++ [q]) := by
  have e : (kvs.any fun p => sameD p.1 (pairD q)) = decide (q ∈ ps) := by
    have e1 : (kvs.any fun p => sameD p.1 (pairD q)) = (kvs.map (·.1)).any fun x => sameD x (pairD q) := by rw [List.any_map]; rfl
    rw [e1, h]
    unfold dP
    rw [List.any_map, Bool.eq_iff_iff, decide_eq_true_iff, List.any_eq_true]
    constructor
    · rintro ⟨x, hx, hs⟩
      have hs : sameD (pairD x) (pairD q) = true := hs
      rw [sameD_pair, decide_eq_true_iff] at hs
      rw [← hs]; exact hx
    · intro hq
      exact ⟨q, hq, by show sameD (pairD q) (pairD q) = true; rw [sameD_pair]; simp⟩
  unfold dput
  rw [e]
  by_cases hq : q ∈ ps
  · rw [if_pos (by simpa using hq), if_pos hq, ← h, List.map_map]
    apply List.map_congr_left
    intro x _
    show (if sameD x.1 (pairD q) then (x.1, v) else x).1 = x.1
    split <;> rfl
  · rw [if_neg (by simpa using hq), if_neg hq, List.map_append, h]
    simp [dP]
/-- a dict in the making of a web's arrows -/
def KP (n : Int) (l : Nat) (kvs : List (D × D)) : Prop := ∃ ps, kvs.map (·.1) = dP ps ∧ ps.Nodup ∧ ps.length ≤ l ∧ ∀ p ∈ ps, 0 ≤ p.1 ∧ p.1 < n ∧ 0 ≤ p.2 ∧ p.2 < n ∧ p.1 ≠ p.2
theorem KP.nil (n : Int) (l : Nat) : KP n l [] := ⟨[], rfl, List.nodup_nil, Nat.zero_le _, fun p h => by cases h⟩
theorem KP.mono {n : Int} {l l' : Nat} {kvs : List (D × D)} (h : KP n l kvs) (hl : l ≤ l') : KP n l' kvs := by
  obtain ⟨ps, h1, h2, h3, h4⟩ := h
  exact ⟨ps, h1, h2, Nat.le_trans h3 hl, h4⟩
theorem KP.len {n : Int} {l : Nat} {kvs : List (D × D)} (h : KP n l kvs) : kvs.length ≤ l := by
  obtain ⟨ps, h1, h2, h3, h4⟩ := h
  have := congrArg List.length h1
  rw [List.length_map, dP_len] at this
  omega
theorem KP.put {n : Int} {l : Nat} {kvs : List (D × D)} (h : KP n l kvs) {a b : Int} (v : D) (h1 : 0 ≤ a ∧ a < n) (h2 : 0 ≤ b ∧ b < n) (h3 : a ≠ b) : KP n (l + 1) (dput (.tuple [.int a, .int b]) v kvs) := by
  obtain ⟨ps, e1, e2, e3, e4⟩ := h
  refine ⟨_, dput_keys e1 (a, b) v, ?_, ?_, ?_⟩
  · split
    · exact e2
    · rename_i hq
      rw [List.nodup_append]
      refine ⟨e2, by simp, fun x hx y hy => ?_⟩
      rw [List.mem_singleton] at hy
      intro e
      exact hq (by rw [← hy, ← e]; exact hx)
  · split
    · omega
    · rw [List.length_append]; simp; omega
  · intro p hp
    split at hp
    · exact e4 p hp
    · rcases List.mem_append.mp hp with z | z
      · exact e4 p z
      · rw [List.mem_singleton] at z
        subst z
        exact ⟨h1.1, h1.2, h2.1, h2.2, h3⟩
theorem sortP_strict {ps : List (Int × Int)} (h : ps.Nodup) : (sortP ps).Pairwise fun p q => lexP p q = true := by
  have h1 := sortP_sorted ps
  have h2 : (sortP ps).Nodup := (sortP_perm ps).nodup_iff.mpr h
  refine (List.Pairwise.and h1 h2).imp ?_
  rintro p q ⟨a, b⟩
  rw [leP_iff] at a
  rw [lexP_iff]
  have b' : ¬ (p.1 = q.1 ∧ p.2 = q.2) := fun e => b (Prod.ext e.1 e.2)
  omega
theorem sortP_len (ps : List (Int × Int)) : (sortP ps).length = ps.length := (sortP_perm ps).length_eq
theorem IsWeb.mk' {n : Int} {ps : List (Int × Int)} (h1 : 1 ≤ n) (h2 : n ≤ 40) (h3 : ps.Nodup) (h4 : ps.length ≤ 200) (h5 : ∀ p ∈ ps, 0 ≤ p.1 ∧ p.1 < n ∧ 0 ≤ p.2 ∧ p.2 < n ∧ p.1 ≠ p.2) : IsWeb n (sortP ps) :=
  ⟨h1, h2, by rw [sortP_len]; exact h4, fun p hp => h5 p ((sortP_perm ps).mem_iff.mp hp), sortP_strict h3⟩
theorem IsWeb.take {n : Int} {ps : List (Int × Int)} (w : IsWeb n ps) (k : Nat) : IsWeb n (ps.take k) :=
  ⟨w.n1, w.n2, by rw [List.length_take]; have := w.len; omega, fun p hp => w.ok p (List.mem_of_mem_take hp), w.srt.sublist (List.take_sublist k ps)⟩
abbrev MakesWeb (g : Sem) : Prop := ∀ (p : Int × Int × Int) (m : Int), 1 ≤ m → m ≤ 40 → ∃ n ps p', IsWeb n ps ∧ n ≤ m ∧ g [.own (Pt p) false, .d (.int m)] = .ret (webD n ps) false [.own (Pt p') false, .d (.int m)]
end Ev
namespace Ev
open PySem
theorem gI_bd {xs : List Int} {i : Int} (lo hi : Int) (h0 : 0 ≤ i) (h1 : i < xs.length) (h : (xs.all fun x => decide (lo ≤ x) && decide (x ≤ hi)) = true) : lo ≤ gI 0 xs i ∧ gI 0 xs i ≤ hi := by
  have := List.all_eq_true.mp h _ (gI_mem (d := 0) h0 h1)
  simpa using this
theorem max2_bd {a b lo hi : Int} (h1 : lo ≤ a ∧ a < hi) (h2 : lo ≤ b ∧ b < hi) : lo ≤ (if b > a then b else a) ∧ (if b > a then b else a) < hi := by split <;> omega
theorem min2_bd {a b lo hi : Int} (h1 : lo ≤ a ∧ a < hi) (h2 : lo ≤ b ∧ b < hi) : lo ≤ (if b < a then b else a) ∧ (if b < a then b else a) < hi := by split <;> omega
theorem tdD_list (kvs : List (D × D)) : tdD .list kvs [] = some (.list (kvs.map (·.1)), true) := rfl
theorem tdD_sorted {kvs : List (D × D)} {ps : List (Int × Int)} (h : kvs.map (·.1) = dP ps) : tdD .sorted kvs [] = some (.list (dP (sortP ps)), true) := by
  have e : tdD .sorted kvs [] = (sortedD (kvs.map (·.1))).map fun ys => (PyData.list ys, true) := rfl
  rw [e, h, sortedD_P]; rfl
end Ev
namespace Ev
open PySem
theorem mmd_append {xs : List D} {y : D} (h : xs.length ≤ 10000000) : mmD .append xs [y] = some (xs ++ [y], .none) := by
  have e : mmD .append xs [y] = if xs.length < line then some (xs ++ [y], .none) else none := rfl
  rw [e, if_pos (by unfold line; omega)]
theorem mmd_extend {xs ys : List D} (h : xs.length + ys.length ≤ 10000000) : mmD .extend xs [.list ys] = some (xs ++ ys, .none) := by
  have e : mmD .extend xs [.list ys] = if xs.length + ys.length ≤ line then some (xs ++ ys, .none) else none := rfl
  rw [e, if_pos (by unfold line; omega)]
end Ev
namespace Ev
open PySem
theorem shd_LN : SeqAt.shaped (.list []) = true := shd_LI []
theorem shd_TN : SeqAt.shaped (.tuple []) = true := shd_TI []
theorem eqv_LN (xs : List D) : PyData.eqv (.list xs) (.list []) = xs.isEmpty := by cases xs <;> rfl
theorem eqv_TN (xs : List D) : PyData.eqv (.tuple xs) (.tuple []) = xs.isEmpty := by cases xs <;> rfl
theorem cp_eqLN (xs : List Int) : cpD .eq (.list (dI xs)) (.list []) = some xs.isEmpty := (cq_eq (shd_LI xs) shd_LN).trans (by rw [eqv_LN, dI_isEmpty])
theorem cp_neLN (xs : List Int) : cpD .ne (.list (dI xs)) (.list []) = some (!xs.isEmpty) := (cq_ne (shd_LI xs) shd_LN).trans (by rw [eqv_LN, dI_isEmpty])
theorem cp_eqTN (xs : List Int) : cpD .eq (.tuple (dI xs)) (.tuple []) = some xs.isEmpty := (cq_eq (shd_TI xs) shd_TN).trans (by rw [eqv_TN, dI_isEmpty])
theorem cp_neTN (xs : List Int) : cpD .ne (.tuple (dI xs)) (.tuple []) = some (!xs.isEmpty) := (cq_ne (shd_TI xs) shd_TN).trans (by rw [eqv_TN, dI_isEmpty])
theorem atI_mem {α : Type} {xs : List α} {i : Int} (h0 : 0 ≤ i) (h1 : i < xs.length) : ∃ x ∈ xs, L2.atI xs i = some x := by
  have hlt : i.toNat < xs.length := by omega
  refine ⟨xs[i.toNat], List.getElem_mem hlt, ?_⟩
  rw [atI_gI xs[i.toNat] h0 h1]
  unfold gI
  rw [List.getD_eq_getElem?_getD, List.getElem?_eq_getElem hlt]
  rfl
theorem map_erase' {α β : Type} (f : α → β) : ∀ (l : List α) (j : Nat), (l.map f).eraseIdx j = (l.eraseIdx j).map f
  | [], _ => rfl
  | _ :: _, 0 => rfl
  | x :: l, j + 1 => by
    show f x :: (l.map f).eraseIdx j = f x :: (l.eraseIdx j).map f
    rw [map_erase' f l j]
theorem perm_erase {α : Type} : ∀ (l : List α) (i : Nat) (h : i < l.length), (l[i] :: l.eraseIdx i).Perm l
  | a :: l, 0, _ => .refl _
  | a :: l, i + 1, h => by
    have h' : i < l.length := by simpa using h
    exact (List.Perm.swap a l[i] (l.eraseIdx i)).trans ((perm_erase l i h').cons a)
theorem mmd_pop1 {xs : List Int} {i : Int} (h0 : 0 ≤ i) (h1 : i < xs.length) (h2 : xs.length ≤ 1000000) : mmD .pop1 (dI xs) [.int i] = some (dI (xs.eraseIdx i.toNat), .int (gI 0 xs i)) := by
  have hlt : i.toNat < xs.length := by omega
  have e : mmD .pop1 (dI xs) [.int i] = if decide (i.natAbs < 2 ^ 63) then match seqIndex? i (dI xs).length with
    | some k => ((dI xs)[k]?).map fun y => ((dI xs).eraseIdx k, y)
    | none => none
    else none := rfl
  have es : seqIndex? i (dI xs).length = some i.toNat := by
    rw [dI_len]
    have := (L2.ixN_seq (ixN_ok (n := xs.length) h0 h1)).1
    exact this
  rw [e, if_pos (decide_eq_true (by omega)), es]
  show ((dI xs)[i.toNat]?).map _ = _
  rw [dI_get, List.getElem?_eq_getElem hlt]
  show some ((dI xs).eraseIdx i.toNat, PyData.int xs[i.toNat]) = _
  have e2 : (dI xs).eraseIdx i.toNat = dI (xs.eraseIdx i.toNat) := by
    exact map_erase' _ _ _
  have e3 : gI 0 xs i = xs[i.toNat] := by
    unfold gI
    rw [List.getD_eq_getElem?_getD, List.getElem?_eq_getElem hlt]
    rfl
  rw [e2, e3]
theorem gI_perm {xs : List Int} {i : Int} (h0 : 0 ≤ i) (h1 : i < xs.length) : (gI 0 xs i :: xs.eraseIdx i.toNat).Perm xs := by
  have hlt : i.toNat < xs.length := by omega
  have e3 : gI 0 xs i = xs[i.toNat] := by
    unfold gI
    rw [List.getD_eq_getElem?_getD, List.getElem?_eq_getElem hlt]
    rfl
  rw [e3]
  exact perm_erase _ _ hlt
theorem intsD_some : ∀ {ys : List D} {is : List Int}, intsD ys = some is → ys = dI is
  | [], is, h => by cases h; rfl
  | y :: ys, is, h => by
    cases y <;> first | (cases h; done) | skip
    rename_i i
    have h : (intsD ys).map (i :: ·) = some is := h
    cases e : intsD ys with
    | none => rw [e] at h; cases h
    | some js =>
      rw [e] at h
      cases h
      rw [intsD_some e]; rfl
theorem all_whole : ∀ ys : List D, ys.all whole = (intsD ys).isSome
  | [] => rfl
  | y :: ys => by
    rw [List.all_cons, all_whole ys]
    cases y <;> first | rfl | (rename_i i; show (true && _) = ((intsD ys).map (i :: ·)).isSome; rw [Option.isSome_map]; rfl)
theorem intsD_bad : ∀ (xs : List Int) (ys : List D), intsD ys = none → intsD (dI xs ++ ys) = none
  | [], ys, h => h
  | x :: xs, ys, h => by
    show (intsD (dI xs ++ ys)).map (x :: ·) = none
    rw [intsD_bad xs ys h]; rfl
end Ev
namespace Ev
open PySem
/-- what all turns keep -/
theorem pforS {φ : Phi} {tg : Tg} {b ss : Ss} {ds : List D} {r : Rho} {Q : SR → Prop} (P : D → Prop) (I : Rho → Prop) (hP : ∀ x ∈ ds, P x) (h0 : I r) (step : ∀ x s, P x → I s → ∃ s0, setT tg x s = some s0 ∧ pSs φ b s0 (nxq I Q)) (hk : ∀ s, I s → pSs φ ss s Q) : WFor φ tg b ds r ss Q :=
  for_inv (cc := fun x => x) (xs := ds) (by simp) (fun _ _ s => I s) h0 (fun done x rest s e h => by
    obtain ⟨s0, e0, w⟩ := step x s (hP x (by rw [e]; simp)) h
    exact ⟨s0, e0, pSs_ok _ w⟩) fun s h => pSs_ok _ (hk s h)
theorem cells_sl (ns : List Int) (a b : Option Int) : ∃ m : List Int, slD a b (.list (dI ns)) = some (.list (dI m), true) ∧ m.length ≤ ns.length := by
  refine ⟨(ns.drop (HT.sIx (dI ns).length 0 a)).take (HT.sIx (dI ns).length (dI ns).length b - HT.sIx (dI ns).length 0 a), ?_, ?_⟩
  · rw [sl_L, dI_drop, dI_take]
  · rw [List.length_take, List.length_drop]; omega
/-- what a law promises -/
abbrev LawTrue (n : Nat) (g : Sem) : Prop := ∀ ns : List Int, ns.length ≤ n → ∃ os, g [.ro (.list (dI ns))] = .ret (.bool true) false os
theorem lawTrue {n : Nat} {g : Sem} (h : ∀ ns : List Int, ns.length ≤ n → ∃ d fr os, g [.ro (.list (dI ns))] = .ret d fr os ∧ d = .bool true ∧ fr = false) : LawTrue n g := fun ns hl => by
  obtain ⟨d, fr, os, e, hd, hf⟩ := h ns hl
  exact ⟨os, by rw [e, hd, hf]⟩
def webOk (n : Int) (ps : List (Int × Int)) : Bool := decide (1 ≤ n) && decide (n ≤ 40) && decide (ps.length ≤ 200) && (ps.all fun p => decide (0 ≤ p.1) && decide (p.1 < n) && decide (0 ≤ p.2) && decide (p.2 < n) && decide (p.1 ≠ p.2)) && decide (ps.Pairwise fun p q => lexP p q = true)
theorem webOk_ok {n : Int} {ps : List (Int × Int)} (h : webOk n ps = true) : IsWeb n ps := by
  unfold webOk at h
  simp only [Bool.and_eq_true, decide_eq_true_eq, List.all_eq_true] at h
  obtain ⟨⟨⟨⟨h1, h2⟩, h3⟩, h4⟩, h5⟩ := h
  exact ⟨h1, h2, h3, fun p hp => by have := h4 p hp; exact ⟨this.1.1.1.1, this.1.1.1.2, this.1.1.2, this.1.2, this.2⟩, h5⟩
end Ev
namespace Ev
open PySem
def i_p_is_whole : Ss := (.cons (.ret (.and (.isi (.var 0) .int) (.not (.isi (.var 0) .bool))))
  .nil)
def i_p_check_place (c1 : Nat) : Ss := (.cons (.iff (.or (.not (.call c1 (.cons (.var 1) .nil))) (.or (.cmp .lt (.var 1) (.int 0)) (.cmp .ge (.var 1) (.ix (.var 0) (.int 0)))))
  (.cons (.raise_ 0 .nil)
  .nil)
  .nil)
  .nil)
def d1_p_leads_to (c1 : Nat) : Es := (.cons (.cmp .eq (.var 2) (.var 1)) .nil)
def e2_p_leads_to (c1 : Nat) : E := (.var 3)
def e3_p_leads_to (c1 : Nat) : E := (.comp (.two 2 3) (.seq (.ix (.var 0) (.int 1))) (d1_p_leads_to c1) (e2_p_leads_to c1))
def i_p_leads_to (c1 : Nat) : Ss := (.cons (.expr (.call c1 (.cons (.var 0) (.cons (.var 1) .nil))))
  (.cons (.ret (e3_p_leads_to c1))
  .nil))
def e1_p_some_good (c1 : Nat) : E := (.call c1 (.cons (.var 2) .nil))
def e2_p_some_good (c1 : Nat) : E := (.comp (.one 2) (.seq (.var 1)) .nil (e1_p_some_good c1))
def d3_p_some_good (c1 : Nat) : Es := (.cons (.cmp .inT (.var 2) (.var 1)) .nil)
def e4_p_some_good (c1 : Nat) : E := (.var 2)
def e5_p_some_good (c1 : Nat) : E := (.comp (.one 2) (.range (.cons (.ix (.var 0) (.int 0)) .nil)) (d3_p_some_good c1) (e4_p_some_good c1))
def i_p_some_good (c1 : Nat) : Ss := (.cons (.iff (.or (.not (.isi (.var 1) .tuple)) (.not (.bi .all (e2_p_some_good c1))))
  (.cons (.ret (.bl false))
  .nil)
  .nil)
  (.cons (.ret (.cmp .eq (.var 1) (.bi .tuple (e5_p_some_good c1))))
  .nil))
def i_p_check_some (c1 : Nat) : Ss := (.cons (.iff (.not (.call c1 (.cons (.var 0) (.cons (.var 1) .nil))))
  (.cons (.raise_ 0 .nil)
  .nil)
  .nil)
  .nil)
def e1_p_is_lost (c1 : Nat) : E := (.cmp .inT (.var 3) (.var 1))
def e2_p_is_lost (c1 : Nat) : E := (.comp (.one 3) (.seq (.call c1 (.cons (.var 0) (.cons (.var 2) .nil)))) .nil (e1_p_is_lost c1))
def i_p_is_lost (c1 : Nat) : Ss := (.cons (.ret (.and (.cmp .ninT (.var 2) (.var 1)) (.not (.bi .any (e2_p_is_lost c1)))))
  .nil)
def e1_p_why_not_good (c1 c2 c3 : Nat) : E := (.and (.call c2 (.cons (.var 3) .nil)) (.chain .le .lt (.int 0) (.var 3) (.ix (.var 0) (.int 0))))
def e2_p_why_not_good (c1 c2 c3 : Nat) : E := (.comp (.one 3) (.seq (.sl (.var 2) (.cons (.int 1) .nil) .nil)) .nil (e1_p_why_not_good c1 c2 c3))
def i_p_why_not_good (c1 c2 c3 : Nat) : Ss := (.cons (.expr (.call c1 (.cons (.var 0) (.cons (.var 1) .nil))))
  (.cons (.iff (.or (.not (.isi (.var 2) .tuple)) (.or (.cmp .ninT (.len (.var 2)) (.tup (.cons (.int 2) (.cons (.int 3) .nil)))) (.not (.isi (.ix (.var 2) (.int 0)) .str))))
  (.cons (.ret (.bl false))
  .nil)
  .nil)
  (.cons (.iff (.not (.bi .all (e2_p_why_not_good c1 c2 c3)))
  (.cons (.ret (.bl false))
  .nil)
  .nil)
  (.cons (.iff (.and (.cmp .eq (.ix (.var 2) (.int 0)) (.str "tied")) (.cmp .eq (.len (.var 2)) (.int 3)))
  (.cons (.ret (.and (.cmp .inT (.sl (.var 2) (.cons (.int 1) .nil) .nil) (.ix (.var 0) (.int 1))) (.and (.cmp .inT (.ix (.var 2) (.int 1)) (.var 1)) (.cmp .inT (.ix (.var 2) (.int 2)) (.var 1)))))
  .nil)
  .nil)
  (.cons (.ret (.and (.cmp .eq (.ix (.var 2) (.int 0)) (.str "lost")) (.and (.cmp .eq (.len (.var 2)) (.int 2)) (.call c3 (.cons (.var 0) (.cons (.var 1) (.cons (.ix (.var 2) (.int 1)) .nil)))))))
  .nil)))))
def i_l_cell_at : Ss := (.cons (.iff (.cmp .lt (.var 1) (.len (.var 0)))
  (.cons (.ret (.ix (.var 0) (.var 1)))
  .nil)
  .nil)
  (.cons (.ret (.int 0))
  .nil))
def i_l_next : Ss := (.cons (.asg 0 (.op2 .mod (.op2 .add (.var 0) (.int 7919)) (.int 2147483647)))
  (.cons (.ret (.op2 .mod (.op2 .add (.op2 .add (.op2 .mul (.var 0) (.var 0)) (.op2 .mul (.int 48271) (.var 0))) (.int 12345)) (.int 2147483629)))
  .nil))
def i_l_pen_of : Ss := (.cons (.asg 1 (.bi2 .max2 (.var 0) (.op2 .sub (.int 0) (.var 0))))
  (.cons (.ret (.lst (.cons (.var 1) (.cons (.bi .int (.cmp .ge (.var 1) (.op2 .pow (.int 10) (.int 18)))) (.cons (.op2 .mod (.var 1) (.int 1000003)) .nil)))))
  .nil))
def i_l_draw (c1 : Nat) : Ss := (.cons (.iff (.cmp .eq (.ix (.var 0) (.int 1)) (.int 1))
  (.cons (.asg 2 (.op2 .mod (.ix (.var 0) (.int 0)) (.var 1)))
  (.cons (.set 0 (.int 0) (.op2 .fdiv (.ix (.var 0) (.int 0)) (.var 1)))
  (.cons (.ret (.var 2))
  .nil)))
  .nil)
  (.cons (.set 0 (.int 2) (.call c1 (.cons (.op2 .add (.call c1 (.cons (.ix (.var 0) (.int 2)) .nil)) (.int 7)) .nil)))
  (.cons (.ret (.op2 .mod (.op2 .fdiv (.ix (.var 0) (.int 2)) (.int 64)) (.var 1)))
  .nil)))
def i_l_whole : Ss := (.cons (.ret (.and (.isi (.var 0) .int) (.not (.isi (.var 0) .bool))))
  .nil)

def b1_l_web_by_2 (c1 : Nat) : Ss := (.cons (.iff (.cmp .gt (.var 2) (.int 1))
  (.cons (.dset 4 (.tup (.cons (.var 6) (.cons (.op2 .mod (.op2 .add (.var 6) (.int 1)) (.var 2)) .nil))) (.bl true))
  .nil)
  .nil)
  .nil)
def b2_l_web_by_2 (c1 : Nat) : Ss := (.cons (.asg 7 (.call c1 (.cons (.var 0) (.cons (.var 2) .nil))))
  (.cons (.asg 8 (.call c1 (.cons (.var 0) (.cons (.var 2) .nil))))
  (.cons (.iff (.and (.cmp .eq (.var 3) (.int 5)) (.cmp .lt (.var 7) (.var 8)))
  (.cons (.par 7 8 (.var 8) (.var 7))
  .nil)
  .nil)
  (.cons (.iff (.cmp .ne (.var 7) (.var 8))
  (.cons (.dset 4 (.tup (.cons (.var 7) (.cons (.var 8) .nil))) (.bl true))
  .nil)
  .nil)
  .nil))))
def i_l_web_by_2 (c1 : Nat) : Ss := (.cons (.asg 2 (.op2 .add (.int 1) (.call c1 (.cons (.var 0) (.cons (.var 1) .nil)))))
  (.cons (.asg 3 (.call c1 (.cons (.var 0) (.cons (.int 6) .nil))))
  (.cons (.asgT 4)
  (.cons (.iff (.cmp .eq (.var 3) (.int 0))
  (.cons (.for_ (.one 6) (.range (.cons (.var 2) .nil)) (b1_l_web_by_2 c1))
  .nil)
  .nil)
  (.cons (.for_ (.one 5) (.range (.cons (.ix (.lst (.cons (.op2 .fdiv (.var 2) (.int 2)) (.cons (.var 2) (.cons (.var 2) (.cons (.op2 .mul (.int 2) (.var 2)) (.cons (.op2 .mul (.int 3) (.var 2)) (.cons (.var 2) .nil))))))) (.var 3)) .nil)) (b2_l_web_by_2 c1))
  (.cons (.ret (.tup (.cons (.var 2) (.cons (.bi .tuple (.sl (.td .sorted 4 .nil) .nil (.cons (.int 200) .nil))) .nil))))
  .nil))))))
def d1_l_nexts : Es := (.cons (.cmp .eq (.var 2) (.var 1)) .nil)
def e2_l_nexts : E := (.var 3)
def e3_l_nexts : E := (.comp (.two 2 3) (.seq (.ix (.var 0) (.int 1))) d1_l_nexts e2_l_nexts)
def i_l_nexts : Ss := (.cons (.ret e3_l_nexts)
  .nil)
def d1_l_some (c1 : Nat) : Es := (.cons (.cmp .eq (.call c1 (.cons (.var 0) (.cons (.var 2) .nil))) (.int 0)) .nil)
def e2_l_some (c1 : Nat) : E := (.var 3)
def e3_l_some (c1 : Nat) : E := (.comp (.one 3) (.range (.cons (.var 1) .nil)) (d1_l_some c1) (e2_l_some c1))
def i_l_some (c1 : Nat) : Ss := (.cons (.asg 2 (.op2 .add (.int 2) (.call c1 (.cons (.var 0) (.cons (.int 3) .nil)))))
  (.cons (.ret (.bi .tuple (e3_l_some c1)))
  .nil))
def e1_l_free (c1 : Nat) : E := (.cmp .ne (.var 2) (.lst .nil))
def e2_l_free (c1 : Nat) : E := (.or (.cmp .inT (.tup (.cons (.var 4) (.cons (.var 5) .nil))) (.ix (.var 1) (.int 1))) (.cmp .inT (.tup (.cons (.var 5) (.cons (.var 4) .nil))) (.ix (.var 1) (.int 1))))
def e3_l_free (c1 : Nat) : E := (.comp (.one 5) (.seq (.var 3)) .nil (e2_l_free c1))
def b4_l_free (c1 : Nat) : Ss := (.cons (.asg 4 (.mm .pop1 2 (.cons (.call c1 (.cons (.var 0) (.cons (.len (.var 2)) .nil))) .nil)))
  (.cons (.iff (.not (.bi .any (e3_l_free c1)))
  (.cons (.expr (.mm .append 3 (.cons (.var 4) .nil)))
  .nil)
  .nil)
  .nil))
def i_l_free (c1 : Nat) : Ss := (.cons (.asgO 2 (.rng1 false (.ix (.var 1) (.int 0))))
  (.cons (.asgO 3 (.lst .nil))
  (.cons (.while_ 1000 (e1_l_free c1) (b4_l_free c1))
  (.cons (.ret (.bi .tuple (.bi .sorted (.var 3))))
  .nil))))
def i_l_odd_some (c1 : Nat) : Ss := (.cons (.asg 3 (.lst (.cons (.bi .list (.var 2)) (.cons .non (.cons (.int 0) (.cons (.str "") (.cons .dict0 (.cons (.op2 .add (.var 2) (.tup (.cons (.var 1) .nil))) (.cons (.op2 .add (.tup (.cons (.neg (.int 1)) .nil)) (.var 2)) (.cons (.op2 .add (.var 2) (.tup (.cons (.int 0) (.cons (.int 0) .nil)))) (.cons (.tup (.cons (.bl true) .nil)) (.cons (.tup (.cons (.bl false) .nil)) .nil))))))))))))
  (.cons (.asg 3 (.op2 .add (.var 3) (.lst (.cons (.op2 .add (.var 2) (.tup (.cons .non .nil))) (.cons (.tup (.cons (.op2 .add (.var 1) (.call c1 (.cons (.var 0) (.cons (.op2 .pow (.int 10) (.int 9)) .nil)))) .nil)) (.cons (.tup (.cons (.str "0") .nil)) (.cons (.tup (.cons (.var 2) .nil)) (.cons (.bl true) (.cons (.op2 .add (.tup (.cons (.int 1) (.cons (.int 0) .nil))) (.var 2)) .nil)))))))))
  (.cons (.ret (.ix (.var 3) (.call c1 (.cons (.var 0) (.cons (.int 16) .nil)))))
  .nil)))
def e1_l_due_of (c1 c2 : Nat) : E := (.and (.call c1 (.cons (.var 4) .nil)) (.chain .le .lt (.int 0) (.var 4) (.ix (.var 0) (.int 0))))
def e2_l_due_of (c1 c2 : Nat) : E := (.comp (.one 4) (.seq (.sl (.var 2) (.cons (.int 1) .nil) .nil)) .nil (e1_l_due_of c1 c2))
def d3_l_due_of (c1 c2 : Nat) : Es := (.cons (.cmp .inT (.var 3) (.var 1)) .nil)
def e4_l_due_of (c1 c2 : Nat) : E := (.var 3)
def e5_l_due_of (c1 c2 : Nat) : E := (.comp (.one 3) (.seq (.call c2 (.cons (.var 0) (.cons (.ix (.var 2) (.int 1)) .nil)))) (d3_l_due_of c1 c2) (e4_l_due_of c1 c2))
def i_l_due_of (c1 c2 : Nat) : Ss := (.cons (.iff (.or (.not (.isi (.var 2) .tuple)) (.or (.cmp .lt (.len (.var 2)) (.int 2)) (.not (.isi (.ix (.var 2) (.int 0)) .str))))
  (.cons (.ret (.bl false))
  .nil)
  .nil)
  (.cons (.iff (.not (.bi .all (e2_l_due_of c1 c2)))
  (.cons (.ret (.bl false))
  .nil)
  .nil)
  (.cons (.iff (.and (.cmp .eq (.ix (.var 2) (.int 0)) (.str "tied")) (.cmp .eq (.len (.var 2)) (.int 3)))
  (.cons (.ret (.and (.cmp .inT (.tup (.cons (.ix (.var 2) (.int 1)) (.cons (.ix (.var 2) (.int 2)) .nil))) (.ix (.var 0) (.int 1))) (.and (.cmp .inT (.ix (.var 2) (.int 1)) (.var 1)) (.cmp .inT (.ix (.var 2) (.int 2)) (.var 1)))))
  .nil)
  .nil)
  (.cons (.iff (.or (.cmp .ne (.ix (.var 2) (.int 0)) (.str "lost")) (.or (.cmp .ne (.len (.var 2)) (.int 2)) (.cmp .inT (.ix (.var 2) (.int 1)) (.var 1))))
  (.cons (.ret (.bl false))
  .nil)
  .nil)
  (.cons (.ret (.cmp .eq (e5_l_due_of c1 c2) (.lst .nil)))
  .nil)))))
def e1_l_things_of (c1 : Nat) : E := (.tup (.cons (.str "tied") (.cons (.var 3) (.cons (.var 4) .nil))))
def e2_l_things_of (c1 : Nat) : E := (.comp (.one 4) (.range (.cons (.ix (.var 1) (.int 0)) .nil)) .nil (e1_l_things_of c1))
def b3_l_things_of (c1 : Nat) : Ss := (.cons (.expr (.mm .append 2 (.cons (.tup (.cons (.str "lost") (.cons (.var 3) .nil))) .nil)))
  (.cons (.expr (.mm .extend 2 (.cons (e2_l_things_of c1) .nil)))
  .nil))
def i_l_things_of (c1 : Nat) : Ss := (.cons (.asgO 2 (.lst .nil))
  (.cons (.for_ (.one 3) (.range (.cons (.ix (.var 1) (.int 0)) .nil)) (b3_l_things_of c1))
  (.cons (.asg 3 (.call c1 (.cons (.var 0) (.cons (.ix (.var 1) (.int 0)) .nil))))
  (.cons (.asg 4 (.call c1 (.cons (.var 0) (.cons (.ix (.var 1) (.int 0)) .nil))))
  (.cons (.asgO 2 (.op2 .add (.var 2) (.lst (.cons (.tup (.cons (.str "lost") (.cons (.ix (.var 1) (.int 0)) .nil))) (.cons (.tup (.cons (.str "lost") (.cons (.neg (.int 1)) .nil))) (.cons (.tup (.cons (.str "lost") (.cons (.bl true) .nil))) (.cons (.tup (.cons (.str "lost") (.cons .non .nil))) (.cons (.tup (.cons (.str "lost") .nil)) (.cons (.tup (.cons (.str "lost") (.cons (.var 3) (.cons (.var 4) .nil)))) .nil)))))))))
  (.cons (.asgO 2 (.op2 .add (.var 2) (.lst (.cons (.lst (.cons (.str "lost") (.cons (.var 3) .nil))) (.cons (.tup (.cons (.str "tied") (.cons (.var 3) .nil))) (.cons (.tup (.cons (.str "tied") (.cons (.bl false) (.cons (.bl true) .nil)))) (.cons (.tup (.cons (.str "tied") (.cons (.var 3) (.cons (.var 4) (.cons (.int 0) .nil))))) (.cons (.lst (.cons (.str "tied") (.cons (.var 3) (.cons (.var 4) .nil)))) (.cons (.tup (.cons (.var 3) (.cons (.var 4) .nil))) .nil)))))))))
  (.cons (.asgO 2 (.op2 .add (.var 2) (.lst (.cons .non (.cons (.tup .nil) (.cons (.str "lost") (.cons (.int 0) (.cons .dict0 (.cons (.tup (.cons (.str "tied") (.cons (.tup (.cons (.var 3) (.cons (.var 4) .nil))) .nil))) (.cons (.tup (.cons (.str "lost") (.cons (.str "0") .nil))) (.cons (.tup (.cons (.str "tied") (.cons (.ix (.var 1) (.int 0)) (.cons (.var 4) .nil)))) (.cons (.tup (.cons (.int 0) (.cons (.var 3) .nil))) .nil))))))))))))
  (.cons (.asgO 2 (.op2 .add (.var 2) (.lst (.cons (.tup (.cons (.str "Tied") (.cons (.var 3) (.cons (.var 4) .nil)))) (.cons (.str "") (.cons (.bl true) .nil))))))
  (.cons (.ret (.var 2))
  .nil)))))))))
def b1_l_refused_2 (c1 c2 : Nat) : Ss := (.cons (.expr (.call c1 (.cons (.var 0) (.cons (.var 1) (.cons (.tup (.cons (.str "lost") (.cons (.int 0) .nil))) .nil)))))
  .nil)
def i_l_refused_2 (c1 c2 : Nat) : Ss := (.cons (.try_ (b1_l_refused_2 c1 c2) 2 [(.ret (.eq (.kind c2 ["place", "hold", "arrow", "number", "row", "web", "ringed", "text", "great"]) (.str "place")))])
  (.cons (.ret (.bl false))
  .nil))
def b1_law_k11 (c1 c2 c3 c4 c5 c6 c7 c8 c9 c10 : Nat) : Ss := (.cons (.asg 7 (.call c7 (.cons (.var 3) (.cons (.var 5) (.cons (.var 6) .nil)))))
  (.cons (.asg 8 (.call c8 (.cons (.var 3) (.cons (.var 5) (.cons (.var 6) .nil)))))
  (.cons (.iff (.or (.not (.isi (.var 8) .bool)) (.cmp .ne (.var 8) (.var 7)))
  (.cons (.ret (.bl false))
  .nil)
  .nil)
  .nil)))
def b2_law_k11 (c1 c2 c3 c4 c5 c6 c7 c8 c9 c10 : Nat) : Ss := (.cons (.for_ (.one 6) (.seq (.var 4)) (b1_law_k11 c1 c2 c3 c4 c5 c6 c7 c8 c9 c10))
  (.cons (.iff (.not (.call c9 (.cons (.var 3) (.cons (.call c10 (.cons (.var 2) (.cons (.ix (.var 3) (.int 0)) (.cons (.var 5) .nil)))) .nil))))
  (.cons (.ret (.bl false))
  .nil)
  .nil)
  .nil))
def b3_law_k11 (c1 c2 c3 c4 c5 c6 c7 c8 c9 c10 : Nat) : Ss := (.cons (.asgO 2 (.call c2 (.cons (.var 1) .nil)))
  (.cons (.asg 3 (.call c3 (.cons (.var 2) (.cons (.int 8) .nil))))
  (.cons (.asg 4 (.call c4 (.cons (.var 2) (.cons (.var 3) .nil))))
  (.cons (.for_ (.one 5) (.seq (.lst (.cons (.call c6 (.cons (.var 2) (.cons (.ix (.var 3) (.int 0)) .nil))) (.cons (.call c5 (.cons (.var 2) (.cons (.var 3) .nil))) (.cons (.tup .nil) .nil))))) (b2_law_k11 c1 c2 c3 c4 c5 c6 c7 c8 c9 c10))
  .nil))))
def i_law_k11 (c1 c2 c3 c4 c5 c6 c7 c8 c9 c10 : Nat) : Ss := (.cons (.for_ (.one 1) (.seq (.op2 .add (.lst (.cons (.call c1 (.cons (.var 0) (.cons (.int 0) .nil))) .nil)) (.sl (.var 0) (.cons (.int 1) .nil) (.cons (.int 8) .nil)))) (b3_law_k11 c1 c2 c3 c4 c5 c6 c7 c8 c9 c10))
  (.cons (.ret (.bl true))
  .nil))
def b1_l_web_by (c1 : Nat) : Ss := (.cons (.asg 7 (.call c1 (.cons (.var 0) (.cons (.var 2) .nil))))
  (.cons (.asg 8 (.call c1 (.cons (.var 0) (.cons (.var 2) .nil))))
  (.cons (.iff (.cmp .eq (.var 3) (.int 0))
  (.cons (.par 7 8 (.bi2 .max2 (.var 7) (.var 8)) (.bi2 .min2 (.var 7) (.var 8)))
  .nil)
  .nil)
  (.cons (.iff (.and (.cmp .ne (.var 7) (.var 8)) (.or (.cmp .ne (.var 3) (.int 1)) (.cmp .eq (.op2 .mod (.op2 .add (.var 7) (.var 8)) (.int 2)) (.int 1))))
  (.cons (.dset 5 (.tup (.cons (.op2 .mod (.op2 .add (.var 7) (.var 4)) (.var 2)) (.cons (.op2 .mod (.op2 .add (.var 8) (.var 4)) (.var 2)) .nil))) (.bl true))
  .nil)
  .nil)
  .nil))))
def b2_l_web_by (c1 : Nat) : Ss := (.cons (.dset 5 (.tup (.cons (.var 9) (.cons (.op2 .mod (.op2 .add (.var 9) (.int 1)) (.var 2)) .nil))) (.bl true))
  .nil)
def i_l_web_by (c1 : Nat) : Ss := (.cons (.asg 2 (.op2 .add (.int 1) (.call c1 (.cons (.var 0) (.cons (.var 1) .nil)))))
  (.cons (.asg 3 (.call c1 (.cons (.var 0) (.cons (.int 4) .nil))))
  (.cons (.asg 4 (.call c1 (.cons (.var 0) (.cons (.var 2) .nil))))
  (.cons (.asgT 5)
  (.cons (.for_ (.one 6) (.range (.cons (.bi2 .min2 (.int 160) (.op2 .mul (.var 2) (.ix (.lst (.cons (.int 1) (.cons (.int 2) (.cons (.int 3) (.cons (.int 6) .nil))))) (.call c1 (.cons (.var 0) (.cons (.int 4) .nil)))))) .nil)) (b1_l_web_by c1))
  (.cons (.iff (.and (.cmp .eq (.var 3) (.int 3)) (.cmp .gt (.var 2) (.int 1)))
  (.cons (.for_ (.one 9) (.range (.cons (.var 2) .nil)) (b2_l_web_by c1))
  .nil)
  .nil)
  (.cons (.ret (.tup (.cons (.var 2) (.cons (.bi .tuple (.bi .sorted (.td .list 5 .nil))) .nil))))
  .nil)))))))
def d1_l_leads : Es := (.cons (.cmp .eq (.ix (.var 2) (.int 0)) (.var 1)) .nil)
def e2_l_leads : E := (.ix (.var 2) (.int 1))
def e3_l_leads : E := (.comp (.one 2) (.seq (.ix (.var 0) (.int 1))) d1_l_leads e2_l_leads)
def i_l_leads : Ss := (.cons (.ret e3_l_leads)
  .nil)
def b1_p_first_tie : Ss := (.cons (.iff (.and (.cmp .inT (.var 2) (.var 1)) (.cmp .inT (.var 3) (.var 1)))
  (.cons (.ret (.tup (.cons (.str "tied") (.cons (.var 2) (.cons (.var 3) .nil)))))
  .nil)
  .nil)
  .nil)
def i_p_first_tie : Ss := (.cons (.for_ (.two 2 3) (.seq (.ix (.var 0) (.int 1))) b1_p_first_tie)
  (.cons (.ret .non)
  .nil))
def b1_p_fault_of (c1 c2 : Nat) : Ss := (.cons (.iff (.call c2 (.cons (.var 0) (.cons (.var 1) (.cons (.var 3) .nil))))
  (.cons (.ret (.tup (.cons (.str "lost") (.cons (.var 3) .nil))))
  .nil)
  .nil)
  .nil)
def i_p_fault_of (c1 c2 : Nat) : Ss := (.cons (.asg 2 (.call c1 (.cons (.var 0) (.cons (.var 1) .nil))))
  (.cons (.iff (.cmp .notN (.var 2) .non)
  (.cons (.ret (.var 2))
  .nil)
  .nil)
  (.cons (.for_ (.one 3) (.range (.cons (.ix (.var 0) (.int 0)) .nil)) (b1_p_fault_of c1 c2))
  (.cons (.ret .non)
  .nil))))
def i_p_hold_good (c1 c2 : Nat) : Ss := (.cons (.ret (.and (.call c1 (.cons (.var 0) (.cons (.var 1) .nil))) (.cmp .isN (.call c2 (.cons (.var 0) (.cons (.var 1) .nil))) .non)))
  .nil)
def b1_l_fault (c1 : Nat) : Ss := (.cons (.iff (.and (.cmp .inT (.var 3) (.var 1)) (.cmp .inT (.var 4) (.var 1)))
  (.cons (.ret (.tup (.cons (.str "tied") (.cons (.var 3) (.cons (.var 4) .nil)))))
  .nil)
  .nil)
  .nil)
def d2_l_fault (c1 : Nat) : Es := (.cons (.cmp .inT (.var 4) (.var 1)) .nil)
def e3_l_fault (c1 : Nat) : E := (.var 4)
def e4_l_fault (c1 : Nat) : E := (.comp (.one 4) (.seq (.call c1 (.cons (.var 0) (.cons (.var 2) .nil)))) (d2_l_fault c1) (e3_l_fault c1))
def b5_l_fault (c1 : Nat) : Ss := (.cons (.iff (.and (.cmp .ninT (.var 2) (.var 1)) (.cmp .eq (e4_l_fault c1) (.lst .nil)))
  (.cons (.ret (.tup (.cons (.str "lost") (.cons (.var 2) .nil))))
  .nil)
  .nil)
  .nil)
def i_l_fault (c1 : Nat) : Ss := (.cons (.for_ (.two 3 4) (.seq (.ix (.var 0) (.int 1))) (b1_l_fault c1))
  (.cons (.for_ (.one 2) (.range (.cons (.ix (.var 0) (.int 0)) .nil)) (b5_l_fault c1))
  (.cons (.ret .non)
  .nil)))
def e1_l_all_sets : E := (.op2 .add (.var 3) (.tup (.cons (.var 2) .nil)))
def e2_l_all_sets : E := (.comp (.one 3) (.seq (.var 1)) .nil e1_l_all_sets)
def b3_l_all_sets : Ss := (.cons (.asg 1 (.op2 .add (.var 1) e2_l_all_sets))
  .nil)
def i_l_all_sets : Ss := (.cons (.asg 1 (.lst (.cons (.tup .nil) .nil)))
  (.cons (.for_ (.one 2) (.range (.cons (.var 0) .nil)) b3_l_all_sets)
  (.cons (.ret (.var 1))
  .nil)))
def d1_l_some_of (c1 : Nat) : Es := (.cons (.cmp .eq (.call c1 (.cons (.var 0) (.cons (.var 2) .nil))) (.int 0)) .nil)
def e2_l_some_of (c1 : Nat) : E := (.var 3)
def e3_l_some_of (c1 : Nat) : E := (.comp (.one 3) (.range (.cons (.var 1) .nil)) (d1_l_some_of c1) (e2_l_some_of c1))
def i_l_some_of (c1 : Nat) : Ss := (.cons (.asg 2 (.op2 .add (.int 2) (.call c1 (.cons (.var 0) (.cons (.int 3) .nil)))))
  (.cons (.ret (.bi .tuple (e3_l_some_of c1)))
  .nil))
def i_p_why_not (c1 c2 : Nat) : Ss := (.cons (.expr (.call c1 (.cons (.var 0) (.cons (.var 1) .nil))))
  (.cons (.ret (.call c2 (.cons (.var 0) (.cons (.var 1) .nil))))
  .nil))
def b1_l_refused (c1 c2 : Nat) : Ss := (.cons (.expr (.call c1 (.cons (.var 0) (.cons (.var 1) .nil))))
  .nil)
def i_l_refused (c1 c2 : Nat) : Ss := (.cons (.try_ (b1_l_refused c1 c2) 2 [(.ret (.eq (.kind c2 ["place", "hold", "arrow", "number", "row", "web", "ringed", "text", "great"]) (.str "place")))])
  (.cons (.ret (.bl false))
  .nil))
def e1_p_half_good (c1 c2 c3 : Nat) : E := (.cmp .inT (.var 4) (.var 1))
def e2_p_half_good (c1 c2 c3 : Nat) : E := (.comp (.one 4) (.seq (.call c3 (.cons (.var 0) (.cons (.var 3) .nil)))) .nil (e1_p_half_good c1 c2 c3))
def b3_p_half_good (c1 c2 c3 : Nat) : Ss := (.cons (.iff (.and (.cmp .inT (.var 2) (.var 1)) (.not (.bi .any (e2_p_half_good c1 c2 c3))))
  (.cons (.ret (.bl false))
  .nil)
  .nil)
  .nil)
def i_p_half_good (c1 c2 c3 : Nat) : Ss := (.cons (.iff (.or (.not (.call c1 (.cons (.var 0) (.cons (.var 1) .nil)))) (.cmp .notN (.call c2 (.cons (.var 0) (.cons (.var 1) .nil))) .non))
  (.cons (.ret (.bl false))
  .nil)
  .nil)
  (.cons (.for_ (.two 2 3) (.seq (.ix (.var 0) (.int 1))) (b3_p_half_good c1 c2 c3))
  (.cons (.ret (.bl true))
  .nil)))
def d1_l_half (c1 : Nat) : Es := (.cons (.cmp .inT (.var 5) (.var 1)) .nil)
def e2_l_half (c1 : Nat) : E := (.var 5)
def e3_l_half (c1 : Nat) : E := (.comp (.one 5) (.seq (.call c1 (.cons (.var 0) (.cons (.var 3) .nil)))) (d1_l_half c1) (e2_l_half c1))
def b4_l_half (c1 : Nat) : Ss := (.cons (.iff (.cmp .inT (.var 2) (.var 1))
  (.cons (.asg 4 (e3_l_half c1))
  (.cons (.iff (.or (.cmp .inT (.var 3) (.var 1)) (.cmp .eq (.var 4) (.lst .nil)))
  (.cons (.ret (.bl false))
  .nil)
  .nil)
  .nil))
  .nil)
  .nil)
def i_l_half (c1 : Nat) : Ss := (.cons (.for_ (.two 2 3) (.seq (.ix (.var 0) (.int 1))) (b4_l_half c1))
  (.cons (.ret (.bl true))
  .nil))
end Ev
/-! Pens, whole numbers, places. -/
namespace Ev
open PySem
local macro_rules | `(tactic| walk_at "ev") => `(tactic| ((try conv => whnf); (first | (guard_target =~ Po 0 _ _; refine po (by first | rfl | exact o2_mod _ _ (by omega) | exact o2_fdiv _ _ (by omega) (by omega) | exact o2_mulS (by omega) | exact o2_mulL1 (by omega) (by omega) | exact o2_mulT1 (by omega) (by omega) | exact o2_addL _ _ (by simp only [dI_len, dP_len, dB_len, dOB_len, dO_len, dT_len, List.length_append, List.length_cons, List.length_nil, List.length_map, List.length_replicate, List.length_reverse, List.length_take, List.length_drop]; omega) | exact o2_addT _ _ (by simp only [dI_len, dP_len, dB_len, dOB_len, dO_len, dT_len, List.length_append, List.length_cons, List.length_nil, List.length_map, List.length_replicate, List.length_reverse, List.length_take, List.length_drop]; omega) | exact o2_pow _ _ (by omega) (by omega) (by omega)) ?_) | (guard_target =~ Po 2 _ _; refine po (by with_reducible first | exact cp_eqLN _ | exact cp_neLN _ | exact cp_eqTN _ | exact cp_neTN _ | exact cp_eqI _ _ | exact cp_neI _ _ | exact cp_ltI _ _ | exact cp_leI _ _ | exact cp_gtI _ _ | exact cp_geI _ _ | exact cp_eqB _ _ | exact cp_neB _ _ | exact cp_inTI _ _ | exact cp_ninTI _ _ | exact cp_inLI _ _ | exact cp_ninLI _ _ | exact cp_inTP _ _ _ | exact cp_ninTP _ _ _ | exact cp_inLP _ _ _ | exact cp_inLB _ _ | exact cp_ninLB _ _ | exact cp_inTB _ _ | exact cp_eqTI _ _ | exact cp_neTI _ _ | exact cp_eqL _ _ | exact cp_neL _ _ | exact cp_eqLO _ _ | exact cp_eqTO _ _ | exact cp_neTO _ _ | exact cp_neLOB _ _ | exact cp_neLT _ _ | exact cp_inLOBb _ _ | exact cp_inLOBn _ | exact cp_ninLOBn _ | exact cp_inLOi _ _ | exact cp_inLOn _ | exact cp_ninLOn _ | exact cp_isNO _ | exact cp_notNO _ | exact cp_isNOB _ | exact cp_notNOB _ | rfl) ?_) | (guard_target =~ Po 13 _ _; refine po (by first | with_reducible rfl | rfl | exact bq_all _ | exact bq_any _ | exact bq_all' _ _ | exact bq_any' _ _ | exact bi_sortI _ | exact bi_sortP _) ?_) | (guard_target =~ Po 6 _ _; refine po (by first | exact mmd_append (by simp only [dI_len, dP_len, dB_len, dOB_len, dO_len, dT_len, List.length_append, List.length_cons, List.length_nil, List.length_map, List.length_replicate, List.length_reverse, List.length_take, List.length_drop]; omega) | exact mmd_extend (by simp only [dI_len, dP_len, dB_len, dOB_len, dO_len, dT_len, List.length_append, List.length_cons, List.length_nil, List.length_map, List.length_replicate, List.length_reverse, List.length_take, List.length_drop]; omega) | rfl) ?_) | (guard_target =~ Po 10 _ _; refine po (by first | exact sl_Tk _ (by omega) | exact sl_Lk _ (by omega) | exact sl_Td _ (by omega) | exact sl_Ld _ (by omega)) ?_) | (guard_target =~ Po 20 _ _; refine po (by first | rfl | exact ixN_ok (by omega) (by simp only [dI_len, dP_len, dB_len, dOB_len, dO_len, dT_len, List.length_append, List.length_cons, List.length_nil, List.length_map, List.length_replicate, List.length_reverse, List.length_take, List.length_drop]; omega)) ?_) | refine po rfl ?_ | apply jt_or | apply jt_and | refine fun (hp : (_ : Bool) = false) => ?_ | refine fun (hp : (_ : Bool) = true) => ?_ | exact And.intro rfl rfl | apply jv_or | apply jv_and | refine ran1 (by omega) ?_ | refine ran2 (by omega) (by omega) ?_ | refine Nx.ret ?_ | exact fq_ret rfl ⟨rfl, rfl, rfl⟩ | exact fq_next rfl ⟨rfl, rfl, rfl⟩ | refine And.intro rfl ?_ | apply jv_chain)))

abbrev S_p_is_whole (g : Sem) : Prop := ∀ x, g [.d x] = .ret (.bool (whole x)) false [.d x]
theorem t_p_is_whole {φ : Phi} : S_p_is_whole (fnV 1 1 i_p_is_whole φ) := by
  intro x
  refine p_fnE rfl rfl ?_
  (try simp only [List.map_cons, List.map_nil, List.replicate_succ, List.replicate_zero, List.cons_append, List.nil_append, Nat.reduceSub, Nat.reduceAdd])
  ((repeat walk_at "ev"); (try conv => whnf))
abbrev S_l_whole (g : Sem) : Prop := ∀ x, g [.d x] = .ret (.bool (whole x)) false [.d x]
theorem t_l_whole {φ : Phi} : S_l_whole (fnV 1 1 i_l_whole φ) := by
  intro x
  refine p_fnE rfl rfl ?_
  (try simp only [List.map_cons, List.map_nil, List.replicate_succ, List.replicate_zero, List.cons_append, List.nil_append, Nat.reduceSub, Nat.reduceAdd])
  ((repeat walk_at "ev"); (try conv => whnf))
def placeIn (n : Int) : D → Bool
  | .int i => decide (0 ≤ i) && decide (i < n)
  | _ => false
theorem placeIn_whole {n : Int} {x : D} (h : whole x = false) : placeIn n x = false := by
  cases x <;> first | rfl | cases h
/-- a place that is one; what is none -/
abbrev S_p_check_place (g : Sem) : Prop := (∀ (n i : Int) (ps : List (Int × Int)), 0 ≤ i → i < n → g [.d (webD n ps), .d (.int i)] = .ret .none false [.d (webD n ps), .d (.int i)]) ∧ ∀ (n : Int) (x : D) (ps : List (Int × Int)), placeIn n x = false → g [.d (webD n ps), .d x] = .exc 0 []
theorem t_p_check_place {φ : Phi} {c1 : Nat} (h1 : S_p_is_whole (φ c1)) : S_p_check_place (fnV 2 2 (i_p_check_place c1) φ) := by
  refine ⟨fun n i ps hi hn => ?_, fun n x ps hx => ?_⟩
  · refine p_fnE rfl rfl ?_
    (try simp only [List.map_cons, List.map_nil, List.replicate_succ, List.replicate_zero, List.cons_append, List.nil_append, Nat.reduceSub, Nat.reduceAdd])
    ((repeat ((try conv => whnf); first | refine clp rfl rfl rfl (h1 _) ?_ | walk_at "ev")); (try conv => whnf))
    refine ifs (fun h => ?_) (fun _ => ?_)
    · simp [whole_int] at h; omega
    · ((repeat walk_at "ev"); (try conv => whnf))
  · refine p_fnX rfl rfl ?_
    (try simp only [List.map_cons, List.map_nil, List.replicate_succ, List.replicate_zero, List.cons_append, List.nil_append, Nat.reduceSub, Nat.reduceAdd])
    cases hw : whole x with
    | false =>
      (conv => whnf)
      refine jt_or (p := true) (q := true) ?_ (fun h => by cases h) ?_
      · ((repeat ((try conv => whnf); first | refine clp rfl rfl rfl (h1 _) ?_ | walk_at "ev")); (try conv => whnf))
        exact ⟨by rw [hw]; rfl, rfl⟩
      · (conv => whnf)
        refine ifsT rfl ?_
        (conv => whnf)
        exact ⟨_, rfl⟩
    | true =>
      obtain ⟨i, rfl⟩ := whole_iff.mp hw
      have hx : (decide (0 ≤ i) && decide (i < n)) = false := hx
      ((repeat ((try conv => whnf); first | refine clp rfl rfl rfl (h1 _) ?_ | walk_at "ev")); (try conv => whnf))
      refine ifs (fun _ => ?_) (fun h => ?_)
      · (conv => whnf)
        exact ⟨_, rfl⟩
      · simp [whole_int] at h hx; omega
abbrev S_p_leads_to (g : Sem) : Prop := ∀ (n i : Int) (ps : List (Int × Int)), IsWeb n ps → 0 ≤ i → i < n → g [.d (webD n ps), .d (.int i)] = .ret (.list (dI (leads ps i))) true [.d (webD n ps), .d (.int i)]
theorem t_p_leads_to {φ : Phi} {c1 : Nat} (h1 : S_p_check_place (φ c1)) : S_p_leads_to (fnV 4 2 (i_p_leads_to c1) φ) := by
  intro n i ps w hi hn
  refine p_fnE rfl rfl ?_
  (try simp only [List.map_cons, List.map_nil, List.replicate_succ, List.replicate_zero, List.cons_append, List.nil_append, Nat.reduceSub, Nat.reduceAdd])
  ((repeat ((try conv => whnf); first | refine clp rfl rfl rfl (h1.1 _ _ _ hi hn) ?_ | walk_at "ev")); (try conv => whnf))
  refine coP (p := fun p => decide (p.1 = i)) (g := fun p => .int p.2) (by decide) rfl (line_le (by have := w.len; omega)) rfl (fun x hx => ?_) (fun x hx hp => ?_) ?_
  · ((repeat walk_at "ev"); (try conv => whnf))
  · ((repeat walk_at "ev"); (try conv => whnf))
  · rw [dI_filter_map]
    ((repeat walk_at "ev"); (try conv => whnf))
abbrev S_l_nexts (g : Sem) : Prop := ∀ (n i : Int) (ps : List (Int × Int)), ps.length ≤ 100000 → g [.d (webD n ps), .d (.int i)] = .ret (.list (dI (leads ps i))) true [.d (webD n ps), .d (.int i)]
theorem t_l_nexts {φ : Phi} : S_l_nexts (fnV 4 2 i_l_nexts φ) := by
  intro n i ps w
  refine p_fnE rfl rfl ?_
  (try simp only [List.map_cons, List.map_nil, List.replicate_succ, List.replicate_zero, List.cons_append, List.nil_append, Nat.reduceSub, Nat.reduceAdd])
  ((repeat walk_at "ev"); (try conv => whnf))
  refine coP (p := fun p => decide (p.1 = i)) (g := fun p => .int p.2) (by decide) rfl (line_le (by omega)) rfl (fun x hx => ?_) (fun x hx hp => ?_) ?_
  · ((repeat walk_at "ev"); (try conv => whnf))
  · ((repeat walk_at "ev"); (try conv => whnf))
  · rw [dI_filter_map]
    ((repeat walk_at "ev"); (try conv => whnf))
abbrev S_l_leads (g : Sem) : Prop := ∀ (n i : Int) (ps : List (Int × Int)), ps.length ≤ 100000 → g [.d (webD n ps), .d (.int i)] = .ret (.list (dI (leads ps i))) true [.d (webD n ps), .d (.int i)]
theorem t_l_leads {φ : Phi} : S_l_leads (fnV 3 2 i_l_leads φ) := by
  intro n i ps w
  refine p_fnE rfl rfl ?_
  (try simp only [List.map_cons, List.map_nil, List.replicate_succ, List.replicate_zero, List.cons_append, List.nil_append, Nat.reduceSub, Nat.reduceAdd])
  ((repeat walk_at "ev"); (try conv => whnf))
  refine coQ (p := fun p => decide (p.1 = i)) (g := fun p => .int p.2) rfl (line_le (by omega)) rfl (fun x hx => ?_) (fun x hx hp => ?_) ?_
  · ((repeat walk_at "ev"); (try conv => whnf))
  · ((repeat walk_at "ev"); (try conv => whnf))
  · rw [dI_filter_map]
    ((repeat walk_at "ev"); (try conv => whnf))
abbrev S_l_cell_at (g : Sem) : Prop := IsCell g
theorem t_l_cell_at {φ : Phi} : S_l_cell_at (fnV 2 2 i_l_cell_at φ) := by
  intro xs k
  by_cases h : k < xs.length
  · refine ⟨xs[k], p_fnE rfl rfl ?_⟩
    (try simp only [List.map_cons, List.map_nil, List.replicate_succ, List.replicate_zero, List.cons_append, List.nil_append, Nat.reduceSub, Nat.reduceAdd])
    ((repeat walk_at "ev"); (try conv => whnf))
    refine ifs (fun _ => ?_) (fun h2 => ?_)
    · ((repeat walk_at "ev"); (try conv => whnf))
      refine po (z := .int xs[k]) (atI_of (by rw [dI_get, List.getElem?_eq_getElem h]; rfl)) ?_
      ((repeat walk_at "ev"); (try conv => whnf))
    · rw [dI_len] at h2; simp at h2; omega
  · refine ⟨0, p_fnE rfl rfl ?_⟩
    (try simp only [List.map_cons, List.map_nil, List.replicate_succ, List.replicate_zero, List.cons_append, List.nil_append, Nat.reduceSub, Nat.reduceAdd])
    ((repeat walk_at "ev"); (try conv => whnf))
    refine ifs (fun h2 => ?_) (fun _ => ?_)
    · rw [dI_len] at h2; simp at h2; omega
    · ((repeat walk_at "ev"); (try conv => whnf))
abbrev S_l_next (g : Sem) : Prop := IsNext g
theorem t_l_next {φ : Phi} : S_l_next (fnV 1 1 i_l_next φ) := by
  intro s
  have h1 : 0 ≤ (s + 7919) % 2147483647 := by omega
  have h2 : (s + 7919) % 2147483647 < 2147483647 := by omega
  refine ⟨((s + 7919) % 2147483647 * ((s + 7919) % 2147483647) + 48271 * ((s + 7919) % 2147483647) + 12345) % 2147483629, by omega, by omega, p_fnE rfl rfl ?_⟩
  (try simp only [List.map_cons, List.map_nil, List.replicate_succ, List.replicate_zero, List.cons_append, List.nil_append, Nat.reduceSub, Nat.reduceAdd])
  ((repeat walk_at "ev"); (try conv => whnf))
abbrev S_l_pen_of (g : Sem) : Prop := IsPen g
theorem t_l_pen_of {φ : Phi} : S_l_pen_of (fnV 2 1 i_l_pen_of φ) := by
  intro i
  refine ⟨if 0 - i > i then 0 - i else i, if (10 : Int) ^ 18 ≤ (if 0 - i > i then 0 - i else i) then 1 else 0, (if 0 - i > i then 0 - i else i) % 1000003, p_fnE rfl rfl ?_⟩
  (try simp only [List.map_cons, List.map_nil, List.replicate_succ, List.replicate_zero, List.cons_append, List.nil_append, Nat.reduceSub, Nat.reduceAdd])
  ((repeat walk_at "ev"); (try conv => whnf))
  refine fq_ret rfl ⟨?_, rfl, rfl⟩
  simp
abbrev S_l_draw (g : Sem) : Prop := IsDraw g
theorem t_l_draw {φ : Phi} {c1 : Nat} (h1 : S_l_next (φ c1)) : S_l_draw (fnV 3 2 (i_l_draw c1) φ) := by
  intro a b c m hm hm2
  by_cases hb : b = 1
  · refine ⟨a % m, a / m, b, c, Int.emod_nonneg _ (by omega), Int.emod_lt_of_pos _ hm, p_fnE rfl rfl ?_⟩
    (try simp only [List.map_cons, List.map_nil, List.replicate_succ, List.replicate_zero, List.cons_append, List.nil_append, Nat.reduceSub, Nat.reduceAdd])
    ((repeat walk_at "ev"); (try conv => whnf))
    refine ifs (fun _ => ?_) (fun h => ?_)
    · ((repeat ((try conv => whnf); first | refine po (o2_fdivB _ _ hm hm2) ?_ | walk_at "ev")); (try conv => whnf))
    · simp [hb] at h
  · obtain ⟨t, t0, t1, e⟩ := h1 c
    obtain ⟨u, u0, u1, e2⟩ := h1 (t + 7)
    refine ⟨u / 64 % m, a, b, u, Int.emod_nonneg _ (by omega), Int.emod_lt_of_pos _ hm, p_fnE rfl rfl ?_⟩
    (try simp only [List.map_cons, List.map_nil, List.replicate_succ, List.replicate_zero, List.cons_append, List.nil_append, Nat.reduceSub, Nat.reduceAdd])
    ((repeat walk_at "ev"); (try conv => whnf))
    refine ifs (fun h => ?_) (fun _ => ?_)
    · simp [hb] at h
    · ((repeat ((try conv => whnf); first | refine clp rfl rfl rfl e ?_ | refine clp rfl rfl rfl e2 ?_ | walk_at "ev")); (try conv => whnf))
end Ev
/-! Webs drawn. -/
namespace Ev
open PySem
local macro_rules | `(tactic| walk_at "ev") => `(tactic| ((try conv => whnf); (first | (guard_target =~ Po 0 _ _; refine po (by first | rfl | exact o2_mod _ _ (by omega) | exact o2_fdiv _ _ (by omega) (by omega) | exact o2_mulS (by omega) | exact o2_mulL1 (by omega) (by omega) | exact o2_mulT1 (by omega) (by omega) | exact o2_addL _ _ (by simp only [dI_len, dP_len, dB_len, dOB_len, dO_len, dT_len, List.length_append, List.length_cons, List.length_nil, List.length_map, List.length_replicate, List.length_reverse, List.length_take, List.length_drop]; omega) | exact o2_addT _ _ (by simp only [dI_len, dP_len, dB_len, dOB_len, dO_len, dT_len, List.length_append, List.length_cons, List.length_nil, List.length_map, List.length_replicate, List.length_reverse, List.length_take, List.length_drop]; omega) | exact o2_pow _ _ (by omega) (by omega) (by omega)) ?_) | (guard_target =~ Po 2 _ _; refine po (by with_reducible first | exact cp_eqLN _ | exact cp_neLN _ | exact cp_eqTN _ | exact cp_neTN _ | exact cp_eqI _ _ | exact cp_neI _ _ | exact cp_ltI _ _ | exact cp_leI _ _ | exact cp_gtI _ _ | exact cp_geI _ _ | exact cp_eqB _ _ | exact cp_neB _ _ | exact cp_inTI _ _ | exact cp_ninTI _ _ | exact cp_inLI _ _ | exact cp_ninLI _ _ | exact cp_inTP _ _ _ | exact cp_ninTP _ _ _ | exact cp_inLP _ _ _ | exact cp_inLB _ _ | exact cp_ninLB _ _ | exact cp_inTB _ _ | exact cp_eqTI _ _ | exact cp_neTI _ _ | exact cp_eqL _ _ | exact cp_neL _ _ | exact cp_eqLO _ _ | exact cp_eqTO _ _ | exact cp_neTO _ _ | exact cp_neLOB _ _ | exact cp_neLT _ _ | exact cp_inLOBb _ _ | exact cp_inLOBn _ | exact cp_ninLOBn _ | exact cp_inLOi _ _ | exact cp_inLOn _ | exact cp_ninLOn _ | exact cp_isNO _ | exact cp_notNO _ | exact cp_isNOB _ | exact cp_notNOB _ | rfl) ?_) | (guard_target =~ Po 13 _ _; refine po (by first | with_reducible rfl | rfl | exact bq_all _ | exact bq_any _ | exact bq_all' _ _ | exact bq_any' _ _ | exact bi_sortI _ | exact bi_sortP _) ?_) | (guard_target =~ Po 6 _ _; refine po (by first | exact mmd_append (by simp only [dI_len, dP_len, dB_len, dOB_len, dO_len, dT_len, List.length_append, List.length_cons, List.length_nil, List.length_map, List.length_replicate, List.length_reverse, List.length_take, List.length_drop]; omega) | exact mmd_extend (by simp only [dI_len, dP_len, dB_len, dOB_len, dO_len, dT_len, List.length_append, List.length_cons, List.length_nil, List.length_map, List.length_replicate, List.length_reverse, List.length_take, List.length_drop]; omega) | rfl) ?_) | (guard_target =~ Po 10 _ _; refine po (by first | exact sl_Tk _ (by omega) | exact sl_Lk _ (by omega) | exact sl_Td _ (by omega) | exact sl_Ld _ (by omega)) ?_) | (guard_target =~ Po 20 _ _; refine po (by first | rfl | exact ixN_ok (by omega) (by simp only [dI_len, dP_len, dB_len, dOB_len, dO_len, dT_len, List.length_append, List.length_cons, List.length_nil, List.length_map, List.length_replicate, List.length_reverse, List.length_take, List.length_drop]; omega)) ?_) | refine po rfl ?_ | apply jt_or | apply jt_and | refine fun (hp : (_ : Bool) = false) => ?_ | refine fun (hp : (_ : Bool) = true) => ?_ | exact And.intro rfl rfl | apply jv_or | apply jv_and | refine ran1 (by omega) ?_ | refine ran2 (by omega) (by omega) ?_ | refine Nx.ret ?_ | exact fq_ret rfl ⟨rfl, rfl, rfl⟩ | exact fq_next rfl ⟨rfl, rfl, rfl⟩ | refine And.intro rfl ?_ | apply jv_chain)))

theorem makesWeb {g : Sem} (h : ∀ (p : Int × Int × Int) (m : Int), 1 ≤ m → m ≤ 40 → ∃ d fr os, g [.own (Pt p) false, .d (.int m)] = .ret d fr os ∧ ∃ n ps p', IsWeb n ps ∧ n ≤ m ∧ d = webD n ps ∧ fr = false ∧ os = [.own (Pt p') false, .d (.int m)]) : MakesWeb g := fun p m h1 h2 => by
  obtain ⟨d, fr, os, e, n, ps, p', w, hn, hd, hf, ho⟩ := h p m h1 h2
  exact ⟨n, ps, p', w, hn, by rw [e, hd, hf, ho]⟩
theorem emod_inj {a b t n : Int} (h1 : 0 ≤ a) (h2 : a < n) (h3 : 0 ≤ b) (h4 : b < n) (e : (a + t) % n = (b + t) % n) : a = b := by
  have h5 : (a - b) % n = 0 := by
    have := Int.emod_emod_of_dvd (a + t - (b + t)) (Int.dvd_refl n)
    have e1 : a - b = (a + t) - (b + t) := by omega
    rw [e1, Int.sub_emod, e, Int.sub_self, Int.zero_emod]
  have h6 := Int.dvd_of_emod_eq_zero h5
  obtain ⟨k, hk⟩ := h6
  have : k = 0 := by
    rcases Int.lt_trichotomy k 0 with h | h | h
    · have : n * k ≤ n * (-1) := Int.mul_le_mul_of_nonneg_left (by omega) (by omega)
      omega
    · exact h
    · have : n * 1 ≤ n * k := Int.mul_le_mul_of_nonneg_left (by omega) (by omega)
      omega
  rw [this] at hk
  omega
/-- what is handed back of a dict of arrows -/
theorem KP.web {n : Int} {l : Nat} {kvs : List (D × D)} (h : KP n l kvs) (h1 : 1 ≤ n) (h2 : n ≤ 40) (hl : l ≤ 200) : ∃ ps, kvs.map (·.1) = dP ps ∧ IsWeb n (sortP ps) := by
  obtain ⟨ps, e1, e2, e3, e4⟩ := h
  exact ⟨ps, e1, IsWeb.mk' h1 h2 e2 (by omega) e4⟩
abbrev S_l_web_by (g : Sem) : Prop := MakesWeb g
theorem t_l_web_by {φ : Phi} {c1 : Nat} (h1 : S_l_draw (φ c1)) : S_l_web_by (fnV 10 2 (i_l_web_by c1) φ) := by
  refine makesWeb fun p0 m hm hm2 => p_fn rfl rfl ?_
  (try simp only [List.map_cons, List.map_nil, List.replicate_succ, List.replicate_zero, List.cons_append, List.nil_append, Nat.reduceSub, Nat.reduceAdd])
  ((repeat walk_at "ev"); (try conv => whnf))
  refine dr h1 rfl (by omega) (by omega) (fun many p_many many0 many1 => ?_)
  ((repeat walk_at "ev"); (try conv => whnf))
  refine dr h1 rfl (by omega) (by omega) (fun way p_way way0 way1 => ?_)
  ((repeat walk_at "ev"); (try conv => whnf))
  refine dr h1 rfl (by omega) (by omega) (fun turn p_turn turn0 turn1 => ?_)
  ((repeat walk_at "ev"); (try conv => whnf))
  refine dr h1 rfl (by omega) (by omega) (fun k p_k k0 k1 => ?_)
  ((repeat walk_at "ev"); (try conv => whnf))
  refine po (atI_map (c := PyData.int) (xs := [1, 2, 3, 6]) 0 (by omega) (by simp; omega)) ?_
  ((repeat walk_at "ev"); (try conv => whnf))
  generalize hK : (if (1 + many) * gI 0 [1, 2, 3, 6] k < 160 then (1 + many) * gI 0 [1, 2, 3, 6] k else 160) = K
  have hK1 : 0 ≤ K ∧ K ≤ 160 := by
    have := gI_bd (xs := [1, 2, 3, 6]) (i := k) 1 6 (by omega) (by simp; omega) rfl
    have h2 : 0 ≤ (1 + many) * gI 0 [1, 2, 3, 6] k := Int.mul_nonneg (by omega) (by omega)
    rw [← hK]
    split <;> omega
  ((repeat walk_at "ev"); (try conv => whnf))
  (try dsimp only [List.set, unfr])
  refine pfor (cc := PyData.int) rfl (fun done rest s => ∃ p kvs z6 z7 z8, s = [some (.own (Pt p) false), some (.d (.int m)), some (.d (.int (1 + many))), some (.d (.int way)), some (.d (.int turn)), some (.own (.dt kvs) true), z6, z7, z8, none] ∧ KP (1 + many) done.length kvs) ⟨_, [], none, none, none, rfl, KP.nil _ _⟩ ?_ ?_
  · rintro done x rest s hd ⟨p, kvs, z6, z7, z8, rfl, kp⟩
    have hl : done.length < 160 := by
      have := congrArg List.length hd
      rw [irange_len] at this
      simp at this
      omega
    have hkl := kp.len
    refine ⟨_, rfl, ?_⟩
    ((repeat walk_at "ev"); (try conv => whnf))
    refine dr h1 rfl (by omega) (by omega) (fun a p_a a0 a1 => ?_)
    ((repeat walk_at "ev"); (try conv => whnf))
    refine dr h1 rfl (by omega) (by omega) (fun b p_b b0 b1 => ?_)
    ((repeat walk_at "ev"); (try conv => whnf))
    have fin : ∀ (a b : Int), 0 ≤ a ∧ a < 1 + many → 0 ≤ b ∧ b < 1 + many → a ≠ b → KP (1 + many) (done ++ [x]).length (dput (.tuple [.int ((a + turn) % (1 + many)), .int ((b + turn) % (1 + many))]) (.bool true) kvs) := by
      intro a b ha hb hab
      rw [List.length_append]
      exact kp.put _ ⟨Int.emod_nonneg _ (by omega), Int.emod_lt_of_pos _ (by omega)⟩ ⟨Int.emod_nonneg _ (by omega), Int.emod_lt_of_pos _ (by omega)⟩ fun e => hab (emod_inj ha.1 ha.2 hb.1 hb.2 e)
    have h0 : KP (1 + many) (done ++ [x]).length kvs := kp.mono (by simp)
    refine ifs (fun _ => ?_) (fun _ => ?_)
    · ((repeat walk_at "ev"); (try conv => whnf))
      have h3 := max2_bd ⟨a0, a1⟩ ⟨b0, b1⟩
      have h4 := min2_bd ⟨a0, a1⟩ ⟨b0, b1⟩
      generalize (if b < a then b else a) = y at *
      generalize (if b > a then b else a) = x at *
      refine ifs (fun hc => ?_) (fun _ => ?_)
      · ((repeat walk_at "ev"); (try conv => whnf))
        refine room (by omega) rfl ?_
        ((repeat walk_at "ev"); (try conv => whnf))
        exact Nx.next ⟨_, _, _, _, _, rfl, fin _ _ h3 h4 (by simp at hc; exact hc.1)⟩
      · ((repeat walk_at "ev"); (try conv => whnf))
        exact Nx.next ⟨_, _, _, _, _, rfl, h0⟩
    · ((repeat walk_at "ev"); (try conv => whnf))
      refine ifs (fun hc => ?_) (fun _ => ?_)
      · ((repeat walk_at "ev"); (try conv => whnf))
        refine room (by omega) rfl ?_
        ((repeat walk_at "ev"); (try conv => whnf))
        exact Nx.next ⟨_, _, _, _, _, rfl, fin _ _ ⟨a0, a1⟩ ⟨b0, b1⟩ (by simp at hc; exact hc.1)⟩
      · ((repeat walk_at "ev"); (try conv => whnf))
        exact Nx.next ⟨_, _, _, _, _, rfl, h0⟩
  · rintro s ⟨p, kvs, z6, z7, z8, rfl, kp⟩
    have kp := kp.mono (l' := 160) (by rw [irange_len]; omega)
    ((repeat walk_at "ev"); (try conv => whnf))
    have fin : ∀ (p' : Int × Int × Int) (kvs : List (D × D)) (z6 z7 z8 z9 : Option SV), KP (1 + many) 200 kvs → pSs φ (.cons (.ret (.tup (.cons (.var 2) (.cons (.bi .tuple (.bi .sorted (.td .list 5 .nil))) .nil)))) .nil) [some (.own (Pt p') false), some (.d (.int m)), some (.d (.int (1 + many))), some (.d (.int way)), some (.d (.int turn)), some (.own (.dt kvs) true), z6, z7, z8, z9] (FQ [SV.own (Pt p0) false, SV.d (PyData.int m)] fun d fr os => ∃ n ps p', IsWeb n ps ∧ n ≤ m ∧ d = webD n ps ∧ fr = false ∧ os = [SV.own (Pt p') false, SV.d (PyData.int m)]) := by
      intro p' kvs z6 z7 z8 z9 kp
      obtain ⟨ps, e1, w⟩ := kp.web (by omega) (by omega) (Nat.le_refl _)
      ((repeat ((try conv => whnf); first | refine po (z := (.list (dP ps), true)) (by rw [tdD_list, e1]) ?_ | walk_at "ev")); (try conv => whnf))
      exact fq_ret rfl ⟨_, _, _, w, by omega, rfl, rfl, rfl⟩
    refine ifs (fun hc => ?_) (fun _ => ?_)
    · ((repeat walk_at "ev"); (try conv => whnf))
      refine pfor (cc := PyData.int) rfl (fun done rest s => ∃ kvs z9, s = [some (.own (Pt p) false), some (.d (.int m)), some (.d (.int (1 + many))), some (.d (.int way)), some (.d (.int turn)), some (.own (.dt kvs) true), z6, z7, z8, z9] ∧ KP (1 + many) (160 + done.length) kvs) ⟨_, none, rfl, kp⟩ ?_ ?_
      · rintro done x rest s hd ⟨kvs, z9, rfl, kp⟩
        have hx : x ∈ irange 0 (1 + many) := by rw [hd]; simp
        have hl : done.length < 40 := by
          have := congrArg List.length hd
          rw [irange_len] at this
          simp at this
          omega
        have hkl := kp.len
        have hx := mem_irange.mp hx
        refine ⟨_, rfl, ?_⟩
        ((repeat walk_at "ev"); (try conv => whnf))
        refine room (by omega) rfl ?_
        ((repeat walk_at "ev"); (try conv => whnf))
        refine Nx.next ⟨_, _, rfl, ?_⟩
        simp at hc
        rw [List.length_append]
        have h4 : 0 ≤ (x + 1) % (1 + many) ∧ (x + 1) % (1 + many) < 1 + many := ⟨Int.emod_nonneg _ (by omega), Int.emod_lt_of_pos _ (by omega)⟩
        refine kp.put _ ⟨by omega, by omega⟩ h4 fun e => ?_
        by_cases h : x + 1 = 1 + many
        · rw [h, Int.emod_self] at e; omega
        · rw [Int.emod_eq_of_lt (by omega) (by omega)] at e; omega
      · rintro s ⟨kvs, z9, rfl, kp⟩
        exact fin _ _ _ _ _ _ (kp.mono (by rw [irange_len]; omega))
    · exact fin _ _ _ _ _ _ (kp.mono (by omega))
end Ev
/-! Webs drawn, sets of places drawn. -/
namespace Ev
open PySem
local macro_rules | `(tactic| walk_at "ev") => `(tactic| ((try conv => whnf); (first | (guard_target =~ Po 0 _ _; refine po (by first | rfl | exact o2_mod _ _ (by omega) | exact o2_fdiv _ _ (by omega) (by omega) | exact o2_mulS (by omega) | exact o2_mulL1 (by omega) (by omega) | exact o2_mulT1 (by omega) (by omega) | exact o2_addL _ _ (by simp only [dI_len, dP_len, dB_len, dOB_len, dO_len, dT_len, List.length_append, List.length_cons, List.length_nil, List.length_map, List.length_replicate, List.length_reverse, List.length_take, List.length_drop]; omega) | exact o2_addT _ _ (by simp only [dI_len, dP_len, dB_len, dOB_len, dO_len, dT_len, List.length_append, List.length_cons, List.length_nil, List.length_map, List.length_replicate, List.length_reverse, List.length_take, List.length_drop]; omega) | exact o2_pow _ _ (by omega) (by omega) (by omega)) ?_) | (guard_target =~ Po 2 _ _; refine po (by with_reducible first | exact cp_eqLN _ | exact cp_neLN _ | exact cp_eqTN _ | exact cp_neTN _ | exact cp_eqI _ _ | exact cp_neI _ _ | exact cp_ltI _ _ | exact cp_leI _ _ | exact cp_gtI _ _ | exact cp_geI _ _ | exact cp_eqB _ _ | exact cp_neB _ _ | exact cp_inTI _ _ | exact cp_ninTI _ _ | exact cp_inLI _ _ | exact cp_ninLI _ _ | exact cp_inTP _ _ _ | exact cp_ninTP _ _ _ | exact cp_inLP _ _ _ | exact cp_inLB _ _ | exact cp_ninLB _ _ | exact cp_inTB _ _ | exact cp_eqTI _ _ | exact cp_neTI _ _ | exact cp_eqL _ _ | exact cp_neL _ _ | exact cp_eqLO _ _ | exact cp_eqTO _ _ | exact cp_neTO _ _ | exact cp_neLOB _ _ | exact cp_neLT _ _ | exact cp_inLOBb _ _ | exact cp_inLOBn _ | exact cp_ninLOBn _ | exact cp_inLOi _ _ | exact cp_inLOn _ | exact cp_ninLOn _ | exact cp_isNO _ | exact cp_notNO _ | exact cp_isNOB _ | exact cp_notNOB _ | rfl) ?_) | (guard_target =~ Po 13 _ _; refine po (by first | with_reducible rfl | rfl | exact bq_all _ | exact bq_any _ | exact bq_all' _ _ | exact bq_any' _ _ | exact bi_sortI _ | exact bi_sortP _) ?_) | (guard_target =~ Po 6 _ _; refine po (by first | exact mmd_append (by simp only [dI_len, dP_len, dB_len, dOB_len, dO_len, dT_len, List.length_append, List.length_cons, List.length_nil, List.length_map, List.length_replicate, List.length_reverse, List.length_take, List.length_drop]; omega) | exact mmd_extend (by simp only [dI_len, dP_len, dB_len, dOB_len, dO_len, dT_len, List.length_append, List.length_cons, List.length_nil, List.length_map, List.length_replicate, List.length_reverse, List.length_take, List.length_drop]; omega) | rfl) ?_) | (guard_target =~ Po 10 _ _; refine po (by first | exact sl_Tk _ (by omega) | exact sl_Lk _ (by omega) | exact sl_Td _ (by omega) | exact sl_Ld _ (by omega)) ?_) | (guard_target =~ Po 20 _ _; refine po (by first | rfl | exact ixN_ok (by omega) (by simp only [dI_len, dP_len, dB_len, dOB_len, dO_len, dT_len, List.length_append, List.length_cons, List.length_nil, List.length_map, List.length_replicate, List.length_reverse, List.length_take, List.length_drop]; omega)) ?_) | refine po rfl ?_ | apply jt_or | apply jt_and | refine fun (hp : (_ : Bool) = false) => ?_ | refine fun (hp : (_ : Bool) = true) => ?_ | exact And.intro rfl rfl | apply jv_or | apply jv_and | refine ran1 (by omega) ?_ | refine ran2 (by omega) (by omega) ?_ | refine Nx.ret ?_ | exact fq_ret rfl ⟨rfl, rfl, rfl⟩ | exact fq_next rfl ⟨rfl, rfl, rfl⟩ | refine And.intro rfl ?_ | apply jv_chain)))

theorem draw_ix {xs : List Int} {w : Int} (h0 : 0 ≤ w) (h1 : w < xs.length) : ixD (.list (dI xs)) (.int w) = some (.int (gI 0 xs w)) := atI_map (c := PyData.int) 0 h0 h1
theorem lt_of_split {a b : Int} {done rest : List Int} {x : Int} (h : irange a b = done ++ x :: rest) : (done.length : Int) < b - a ∧ a ≤ x ∧ x < b := by
  have hx : x ∈ irange a b := by rw [h]; simp
  have := congrArg List.length h
  rw [irange_len] at this
  simp at this
  have := mem_irange.mp hx
  omega
theorem split_eq {a b : Int} {done rest : List Int} {x : Int} (h : irange a b = done ++ x :: rest) : x = a + (done.length : Int) := by
  have hl := lt_of_split h
  have h2 : (irange a b)[done.length]? = some x := by rw [h]; simp
  unfold irange at h2
  rw [List.getElem?_map, List.getElem?_range (by omega)] at h2
  exact (Option.some.inj h2).symm
/-- the place behind a place, round about -/
theorem KP.next {n : Int} {l : Nat} {kvs : List (D × D)} (kp : KP n l kvs) {x : Int} (v : D) (h0 : 0 ≤ x) (h1 : x < n) (h2 : 1 < n) : KP n (l + 1) (dput (.tuple [.int x, .int ((x + 1) % n)]) v kvs) := by
  have h4 : 0 ≤ (x + 1) % n ∧ (x + 1) % n < n := ⟨Int.emod_nonneg _ (by omega), Int.emod_lt_of_pos _ (by omega)⟩
  refine kp.put _ ⟨by omega, by omega⟩ h4 fun e => ?_
  by_cases h : x + 1 = n
  · rw [h, Int.emod_self] at e; omega
  · rw [Int.emod_eq_of_lt (by omega) (by omega)] at e; omega
abbrev S_l_web_by_2 (g : Sem) : Prop := MakesWeb g
theorem t_l_web_by_2 {φ : Phi} {c1 : Nat} (h1 : S_l_draw (φ c1)) : S_l_web_by_2 (fnV 9 2 (i_l_web_by_2 c1) φ) := by
  refine makesWeb fun p0 m hm hm2 => p_fn rfl rfl ?_
  (try simp only [List.map_cons, List.map_nil, List.replicate_succ, List.replicate_zero, List.cons_append, List.nil_append, Nat.reduceSub, Nat.reduceAdd])
  ((repeat walk_at "ev"); (try conv => whnf))
  refine dr h1 rfl (by omega) (by omega) (fun many p_many many0 many1 => ?_)
  ((repeat walk_at "ev"); (try conv => whnf))
  refine dr h1 rfl (by omega) (by omega) (fun way p_way way0 way1 => ?_)
  ((repeat walk_at "ev"); (try conv => whnf))
  (try dsimp only [List.set, unfr])
  have fin : ∀ (p1 : Int × Int × Int) (kvs : List (D × D)) (z6 : Option SV), KP (1 + many) 40 kvs → pSs φ (.cons (.for_ (.one 5) (.range (.cons (.ix (.lst (.cons (.op2 .fdiv (.var 2) (.int 2)) (.cons (.var 2) (.cons (.var 2) (.cons (.op2 .mul (.int 2) (.var 2)) (.cons (.op2 .mul (.int 3) (.var 2)) (.cons (.var 2) .nil))))))) (.var 3)) .nil)) (b2_l_web_by_2 c1))
      (.cons (.ret (.tup (.cons (.var 2) (.cons (.bi .tuple (.sl (.td .sorted 4 .nil) .nil (.cons (.int 200) .nil))) .nil)))) .nil)) [some (.own (Pt p1) false), some (.d (.int m)), some (.d (.int (1 + many))), some (.d (.int way)), some (.own (.dt kvs) true), none, z6, none, none]
      (FQ [SV.own (Pt p0) false, SV.d (PyData.int m)] fun d fr os => ∃ n ps p', IsWeb n ps ∧ n ≤ m ∧ d = webD n ps ∧ fr = false ∧ os = [SV.own (Pt p') false, SV.d (PyData.int m)]) := by
    intro p1 kvs z6 kp
    ((repeat ((try conv => whnf); first | refine po (draw_ix (xs := [_, _, _, _, _, _]) (by omega) (by simp; omega)) ?_ | walk_at "ev")); (try conv => whnf))
    generalize hK : gI 0 [(1 + many) / 2, 1 + many, 1 + many, 2 * (1 + many), 3 * (1 + many), 1 + many] way = K
    have hK1 : 0 ≤ K ∧ K ≤ 120 := by
      have := gI_mem (d := 0) (xs := [(1 + many) / 2, 1 + many, 1 + many, 2 * (1 + many), 3 * (1 + many), 1 + many]) (i := way) (by omega) (by simp; omega)
      rw [hK] at this
      simp at this
      omega
    ((repeat walk_at "ev"); (try conv => whnf))
    refine pfor (cc := PyData.int) rfl (fun done rest s => ∃ p kvs z5 z7 z8, s = [some (.own (Pt p) false), some (.d (.int m)), some (.d (.int (1 + many))), some (.d (.int way)), some (.own (.dt kvs) true), z5, z6, z7, z8] ∧ KP (1 + many) (40 + done.length) kvs) ⟨_, _, none, none, none, rfl, kp⟩ ?_ ?_
    · rintro done x rest s hd ⟨p, kvs, z5, z7, z8, rfl, kp⟩
      have hl := lt_of_split hd
      have hkl := kp.len
      refine ⟨_, rfl, ?_⟩
      ((repeat walk_at "ev"); (try conv => whnf))
      refine dr h1 rfl (by omega) (by omega) (fun a p_a a0 a1 => ?_)
      ((repeat walk_at "ev"); (try conv => whnf))
      refine dr h1 rfl (by omega) (by omega) (fun b p_b b0 b1 => ?_)
      ((repeat walk_at "ev"); (try conv => whnf))
      have h0 : KP (1 + many) (40 + (done ++ [x]).length) kvs := kp.mono (by simp)
      have h5 : ∀ {a b : Int}, 0 ≤ a → a < 1 + many → 0 ≤ b → b < 1 + many → a ≠ b → KP (1 + many) (40 + (done ++ [x]).length) (dput (.tuple [.int a, .int b]) (.bool true) kvs) := fun a0 a1 b0 b1 h => by
        rw [List.length_append]
        exact kp.put _ ⟨a0, a1⟩ ⟨b0, b1⟩ h
      refine ifs (fun hc => ?_) (fun _ => ?_)
      · ((repeat walk_at "ev"); (try conv => whnf))
        refine ifs (fun hc => ?_) (fun _ => ?_)
        · ((repeat walk_at "ev"); (try conv => whnf))
          refine room (by omega) rfl ?_
          ((repeat walk_at "ev"); (try conv => whnf))
          exact Nx.next ⟨_, _, _, _, _, rfl, h5 b0 b1 a0 a1 (by simpa using hc)⟩
        · ((repeat walk_at "ev"); (try conv => whnf))
          exact Nx.next ⟨_, _, _, _, _, rfl, h0⟩
      · ((repeat walk_at "ev"); (try conv => whnf))
        refine ifs (fun hc => ?_) (fun _ => ?_)
        · ((repeat walk_at "ev"); (try conv => whnf))
          refine room (by omega) rfl ?_
          ((repeat walk_at "ev"); (try conv => whnf))
          exact Nx.next ⟨_, _, _, _, _, rfl, h5 a0 a1 b0 b1 (by simpa using hc)⟩
        · ((repeat walk_at "ev"); (try conv => whnf))
          exact Nx.next ⟨_, _, _, _, _, rfl, h0⟩
    · rintro s ⟨p, kvs, z5, z7, z8, rfl, kp⟩
      obtain ⟨ps, e1, w⟩ := kp.web (by omega) (by omega) (by rw [irange_len]; omega)
      ((repeat ((try conv => whnf); first | refine po (tdD_sorted e1) ?_ | walk_at "ev")); (try conv => whnf))
      exact fq_ret rfl ⟨_, _, _, w.take 200, by omega, (by show PyData.tuple [_, .tuple ((dP (sortP ps)).take 200)] = _; rw [dP_take]), rfl, rfl⟩
  refine ifs (fun hc => ?_) (fun _ => ?_)
  · ((repeat walk_at "ev"); (try conv => whnf))
    refine pfor (cc := PyData.int) rfl (fun done rest s => ∃ kvs z6, s = [some (.own (Pt p_way) false), some (.d (.int m)), some (.d (.int (1 + many))), some (.d (.int way)), some (.own (.dt kvs) true), none, z6, none, none] ∧ KP (1 + many) done.length kvs) ⟨_, none, rfl, KP.nil _ _⟩ ?_ ?_
    · rintro done x rest s hd ⟨kvs, z9, rfl, kp⟩
      have hl := lt_of_split hd
      have hkl := kp.len
      refine ⟨_, rfl, ?_⟩
      ((repeat walk_at "ev"); (try conv => whnf))
      refine ifs (fun hc => ?_) (fun _ => ?_)
      · ((repeat walk_at "ev"); (try conv => whnf))
        refine room (by omega) rfl ?_
        ((repeat walk_at "ev"); (try conv => whnf))
        refine Nx.next ⟨_, _, rfl, ?_⟩
        rw [List.length_append]
        simp at hc
        exact kp.next _ (by omega) (by omega) (by omega)
      · ((repeat walk_at "ev"); (try conv => whnf))
        exact Nx.next ⟨_, _, rfl, kp.mono (by simp)⟩
    · rintro s ⟨kvs, z9, rfl, kp⟩
      exact fin _ _ _ (kp.mono (by rw [irange_len]; omega))
  · exact fin _ _ _ (KP.nil _ _)
/-! ### all sets of places -/
def allSets : Nat → List (List Int)
  | 0 => [[]]
  | k + 1 => allSets k ++ (allSets k).map fun s => s ++ [(k : Int)]
theorem allSets_len : ∀ k, (allSets k).length = 2 ^ k
  | 0 => rfl
  | k + 1 => by
    show (allSets k ++ (allSets k).map _).length = _
    rw [List.length_append, List.length_map, allSets_len k, Nat.pow_succ]; omega
/-- rising places -/
structure Rising (n : Int) (xs : List Int) : Prop where
  srt : xs.Pairwise (· < ·)
  rng : ∀ x ∈ xs, 0 ≤ x ∧ x < n
theorem Rising.nil (n : Int) : Rising n [] := ⟨.nil, fun x h => by cases h⟩
theorem Rising.mono {n m : Int} {xs : List Int} (h : Rising n xs) (hm : n ≤ m) : Rising m xs := ⟨h.srt, fun x hx => by have := h.rng x hx; omega⟩
theorem irange_rising (n : Int) : Rising n (irange 0 n) := by
  refine ⟨?_, fun x h => mem_irange.mp h⟩
  unfold irange
  rw [List.pairwise_map]
  exact List.Pairwise.imp (fun h => by omega) List.pairwise_lt_range
theorem Rising.sub {n : Int} {xs ys : List Int} (h : Rising n xs) (s : ys.Sublist xs) : Rising n ys := ⟨h.srt.sublist s, fun x hx => h.rng x (s.subset hx)⟩
theorem allSets_rising : ∀ k, ∀ xs ∈ allSets k, Rising (k : Int) xs ∧ xs.length ≤ k
  | 0, xs, h => by
    rw [List.mem_singleton.mp h]
    exact ⟨Rising.nil _, Nat.le_refl _⟩
  | k + 1, xs, h => by
    rcases List.mem_append.mp h with h | h
    · obtain ⟨h1, h2⟩ := allSets_rising k xs h
      exact ⟨h1.mono (by omega), by omega⟩
    · obtain ⟨ys, hy, rfl⟩ := List.mem_map.mp h
      obtain ⟨h1, h2⟩ := allSets_rising k ys hy
      refine ⟨⟨?_, fun x hx => ?_⟩, by simp; exact h2⟩
      · rw [List.pairwise_append]
        refine ⟨h1.srt, List.pairwise_singleton _ _, fun a ha b hb => ?_⟩
        rw [List.mem_singleton.mp hb]
        exact (h1.rng a ha).2
      · rcases List.mem_append.mp hx with h | h
        · have := h1.rng x h; omega
        · rw [List.mem_singleton.mp h]; omega
abbrev S_l_all_sets (g : Sem) : Prop := ∀ n : Int, 0 ≤ n → n ≤ 13 → g [.d (.int n)] = .ret (.list (dT (allSets n.toNat))) false [.d (.int n)]
theorem t_l_all_sets {φ : Phi} : S_l_all_sets (fnV 4 1 i_l_all_sets φ) := by
  intro n h0 h13
  refine p_fnE rfl rfl ?_
  (try simp only [List.map_cons, List.map_nil, List.replicate_succ, List.replicate_zero, List.cons_append, List.nil_append, Nat.reduceSub, Nat.reduceAdd])
  ((repeat walk_at "ev"); (try conv => whnf))
  refine pfor (cc := PyData.int) rfl (fun done rest s => ∃ z, s = [some (.d (.int n)), some (.d (.list (dT (allSets done.length)))), z, none]) ⟨none, rfl⟩ ?_ ?_
  · rintro done x rest s hd ⟨z, rfl⟩
    have hl := lt_of_split hd
    have hx : x = (done.length : Int) := by have := split_eq hd; omega
    have hlen := allSets_len done.length
    have hp : 2 ^ done.length ≤ 2 ^ 13 := Nat.pow_le_pow_right (by decide) (by omega)
    refine ⟨_, rfl, ?_⟩
    ((repeat walk_at "ev"); (try conv => whnf))
    refine coTn (g := fun s => tupI (s ++ [x])) rfl (line_le (by omega)) rfl (fun s hs => ?_) ?_
    · have h2 := (allSets_rising _ s hs).2
      ((repeat ((try conv => whnf); first | refine po (z := (tupI (s ++ [x]), false)) ((o2_addT _ _ (by simp [dI_len]; omega)).trans (by rw [tupI, ← dI_app]; rfl)) ?_ | walk_at "ev")); (try conv => whnf))
    · ((repeat ((try conv => whnf); first | refine po (o2_addL _ _ (by simp [dT_len]; omega)) ?_ | walk_at "ev")); (try conv => whnf))
      refine Nx.next ⟨some (.d (.int x)), ?_⟩
      rw [List.length_append, List.length_singleton]
      show _ = [_, some (SV.d (.list (dT (allSets done.length ++ (allSets done.length).map fun s => s ++ [(done.length : Int)])))), _, _]
      simp [dT, hx]
  · rintro s ⟨z, rfl⟩
    ((repeat walk_at "ev"); (try conv => whnf))
    refine fq_ret rfl ⟨?_, rfl, rfl⟩
    rw [irange_len]
    simp
abbrev S_l_some_of (g : Sem) : Prop := ∀ (p : Int × Int × Int) (n : Int), 0 ≤ n → n ≤ 1000 → ∃ xs p', xs.Sublist (irange 0 n) ∧ g [.own (Pt p) false, .d (.int n)] = .ret (.tuple (dI xs)) false [.own (Pt p') false, .d (.int n)]
theorem t_l_some_of {φ : Phi} {c1 : Nat} (h1 : S_l_draw (φ c1)) : S_l_some_of (fnV 4 2 (i_l_some_of c1) φ) := by
  intro p n h0 h2
  have key : ∃ d fr os, fnV 4 2 (i_l_some_of c1) φ [.own (Pt p) false, .d (.int n)] = .ret d fr os ∧ ∃ xs p', xs.Sublist (irange 0 n) ∧ d = .tuple (dI xs) ∧ fr = false ∧ os = [.own (Pt p') false, .d (.int n)] := by
    refine p_fn rfl rfl ?_
    (try simp only [List.map_cons, List.map_nil, List.replicate_succ, List.replicate_zero, List.cons_append, List.nil_append, Nat.reduceSub, Nat.reduceAdd])
    ((repeat walk_at "ev"); (try conv => whnf))
    refine dr h1 rfl (by omega) (by omega) (fun share p_share share0 share1 => ?_)
    ((repeat walk_at "ev"); (try conv => whnf))
    refine cInvC (cc := PyData.int) rfl (fun ys rest s => ∃ p xs, s = [some (.own (Pt p) false), some (.d (.int n)), some (.d (.int (2 + share))), none] ∧ ys = dI xs ∧ (xs ++ rest).Sublist (irange 0 n)) rfl (line_le (by rw [irange_len]; omega)) ⟨_, [], rfl, rfl, List.Sublist.refl _⟩ (fun ys rest s ⟨_, _, e, _⟩ => by rw [e]; rfl) ?_ ?_
    · rintro ys x rest s ⟨p, xs, rfl, rfl, hs⟩
      ((repeat walk_at "ev"); (try conv => whnf))
      refine dr h1 rfl (by omega) (by omega) (fun w p_w w0 w1 => ?_)
      ((repeat walk_at "ev"); (try conv => whnf))
      refine ⟨fun _ => ⟨_, _, rfl, rfl, ?_⟩, fun _ => ?_⟩
      · exact List.Sublist.trans (List.Sublist.append_left (List.sublist_cons_self ..) _) hs
      · ((repeat walk_at "ev"); (try conv => whnf))
        refine ⟨_, xs ++ [x], rfl, by simp [dI], by simpa using hs⟩
    · rintro ys s ⟨p, xs, rfl, rfl, hs⟩
      ((repeat walk_at "ev"); (try conv => whnf))
      exact fq_ret rfl ⟨xs, _, by simpa using hs, rfl, rfl, rfl⟩
  obtain ⟨d, fr, os, e, xs, p', hs, hd, hf, ho⟩ := key
  exact ⟨xs, p', hs, by rw [e, hd, hf, ho]⟩
end Ev
/-! Sets of places, drawn; what is none. -/
namespace Ev
open PySem
local macro_rules | `(tactic| walk_at "ev") => `(tactic| ((try conv => whnf); (first | (guard_target =~ Po 0 _ _; refine po (by first | rfl | exact o2_mod _ _ (by omega) | exact o2_fdiv _ _ (by omega) (by omega) | exact o2_mulS (by omega) | exact o2_mulL1 (by omega) (by omega) | exact o2_mulT1 (by omega) (by omega) | exact o2_addL _ _ (by simp only [dI_len, dP_len, dB_len, dOB_len, dO_len, dT_len, List.length_append, List.length_cons, List.length_nil, List.length_map, List.length_replicate, List.length_reverse, List.length_take, List.length_drop]; omega) | exact o2_addT _ _ (by simp only [dI_len, dP_len, dB_len, dOB_len, dO_len, dT_len, List.length_append, List.length_cons, List.length_nil, List.length_map, List.length_replicate, List.length_reverse, List.length_take, List.length_drop]; omega) | exact o2_pow _ _ (by omega) (by omega) (by omega)) ?_) | (guard_target =~ Po 2 _ _; refine po (by with_reducible first | exact cp_eqLN _ | exact cp_neLN _ | exact cp_eqTN _ | exact cp_neTN _ | exact cp_eqI _ _ | exact cp_neI _ _ | exact cp_ltI _ _ | exact cp_leI _ _ | exact cp_gtI _ _ | exact cp_geI _ _ | exact cp_eqB _ _ | exact cp_neB _ _ | exact cp_inTI _ _ | exact cp_ninTI _ _ | exact cp_inLI _ _ | exact cp_ninLI _ _ | exact cp_inTP _ _ _ | exact cp_ninTP _ _ _ | exact cp_inLP _ _ _ | exact cp_inLB _ _ | exact cp_ninLB _ _ | exact cp_inTB _ _ | exact cp_eqTI _ _ | exact cp_neTI _ _ | exact cp_eqL _ _ | exact cp_neL _ _ | exact cp_eqLO _ _ | exact cp_eqTO _ _ | exact cp_neTO _ _ | exact cp_neLOB _ _ | exact cp_neLT _ _ | exact cp_inLOBb _ _ | exact cp_inLOBn _ | exact cp_ninLOBn _ | exact cp_inLOi _ _ | exact cp_inLOn _ | exact cp_ninLOn _ | exact cp_isNO _ | exact cp_notNO _ | exact cp_isNOB _ | exact cp_notNOB _ | rfl) ?_) | (guard_target =~ Po 13 _ _; refine po (by first | with_reducible rfl | rfl | exact bq_all _ | exact bq_any _ | exact bq_all' _ _ | exact bq_any' _ _ | exact bi_sortI _ | exact bi_sortP _) ?_) | (guard_target =~ Po 6 _ _; refine po (by first | exact mmd_append (by simp only [dI_len, dP_len, dB_len, dOB_len, dO_len, dT_len, List.length_append, List.length_cons, List.length_nil, List.length_map, List.length_replicate, List.length_reverse, List.length_take, List.length_drop]; omega) | exact mmd_extend (by simp only [dI_len, dP_len, dB_len, dOB_len, dO_len, dT_len, List.length_append, List.length_cons, List.length_nil, List.length_map, List.length_replicate, List.length_reverse, List.length_take, List.length_drop]; omega) | rfl) ?_) | (guard_target =~ Po 10 _ _; refine po (by first | exact sl_Tk _ (by omega) | exact sl_Lk _ (by omega) | exact sl_Td _ (by omega) | exact sl_Ld _ (by omega)) ?_) | (guard_target =~ Po 20 _ _; refine po (by first | rfl | exact ixN_ok (by omega) (by simp only [dI_len, dP_len, dB_len, dOB_len, dO_len, dT_len, List.length_append, List.length_cons, List.length_nil, List.length_map, List.length_replicate, List.length_reverse, List.length_take, List.length_drop]; omega)) ?_) | refine po rfl ?_ | apply jt_or | apply jt_and | refine fun (hp : (_ : Bool) = false) => ?_ | refine fun (hp : (_ : Bool) = true) => ?_ | exact And.intro rfl rfl | apply jv_or | apply jv_and | refine ran1 (by omega) ?_ | refine ran2 (by omega) (by omega) ?_ | refine Nx.ret ?_ | exact fq_ret rfl ⟨rfl, rfl, rfl⟩ | exact fq_next rfl ⟨rfl, rfl, rfl⟩ | refine And.intro rfl ?_ | apply jv_chain)))

theorem sortI_rising {n : Int} {xs : List Int} (h : xs.Nodup) (hr : ∀ x ∈ xs, 0 ≤ x ∧ x < n) : Rising n (sortI xs) := by
  have hp := sortI_perm xs
  refine ⟨?_, fun x hx => hr x (hp.mem_iff.mp hx)⟩
  refine (List.Pairwise.and (sortI_sorted xs) (hp.nodup_iff.mpr h)).imp ?_
  rintro a b ⟨h1, h2⟩
  have h2 : a ≠ b := h2
  omega
theorem Rising.nodup {n : Int} {xs : List Int} (h : Rising n xs) : xs.Nodup := h.srt.imp fun h => by omega
theorem nodup_len {xs ys : List Int} : xs.Nodup → (∀ x ∈ xs, x ∈ ys) → xs.length ≤ ys.length := by
  induction xs generalizing ys with
  | nil => intro _ _; exact Nat.zero_le _
  | cons x xs ih =>
    intro h1 h2
    have hx := h2 x (List.mem_cons_self ..)
    have h3 := List.nodup_cons.mp h1
    have := ih (ys := ys.erase x) h3.2 fun y hy => (List.mem_erase_of_ne (fun e => h3.1 (by rw [← e]; exact hy))).mpr (h2 y (List.mem_cons_of_mem _ hy))
    rw [List.length_erase_of_mem hx] at this
    have h4 : 0 < ys.length := List.length_pos_of_mem hx
    rw [List.length_cons]; omega
theorem Rising.len {n : Int} {xs : List Int} (h : Rising n xs) : xs.length ≤ n.toNat := by
  have := nodup_len (ys := irange 0 n) h.nodup fun x hx => mem_irange.mpr (h.rng x hx)
  rw [irange_len] at this
  simpa using this
abbrev S_l_free (g : Sem) : Prop := ∀ (p : Int × Int × Int) (n : Int) (ps : List (Int × Int)), IsWeb n ps → ∃ xs p', Rising n xs ∧ g [.own (Pt p) false, .d (webD n ps)] = .ret (.tuple (dI xs)) false [.own (Pt p') false, .d (webD n ps)]
theorem t_l_free {φ : Phi} {c1 : Nat} (h1 : S_l_draw (φ c1)) : S_l_free (fnV 6 2 (i_l_free c1) φ) := by
  intro p n ps w
  have n1 := w.n1
  have n2 := w.n2
  have key : ∃ d fr os, fnV 6 2 (i_l_free c1) φ [.own (Pt p) false, .d (webD n ps)] = .ret d fr os ∧ ∃ xs p', Rising n xs ∧ d = .tuple (dI xs) ∧ fr = false ∧ os = [.own (Pt p') false, .d (webD n ps)] := by
    refine p_fn rfl rfl ?_
    (try simp only [List.map_cons, List.map_nil, List.replicate_succ, List.replicate_zero, List.cons_append, List.nil_append, Nat.reduceSub, Nat.reduceAdd])
    ((repeat ((try conv => whnf); first | refine po (z := (.list (dI (irange 0 n)), true)) (by show (if okI n then some (rngD false 0 n) else none) = _; rw [if_pos (show okI n = true from decide_eq_true (by omega)), ← rangeL_eq]; rfl) ?_ | walk_at "ev")); (try conv => whnf))
    refine pwhile (fun m s => ∃ p left found z, s = [some (.own (Pt p) false), some (.d (webD n ps)), some (.own (.lst (dI left)) true), some (.own (.lst (dI found)) true), z, none] ∧ m = left.length ∧ found.length + left.length ≤ 40 ∧ (left ++ found).Nodup ∧ ∀ x ∈ left ++ found, 0 ≤ x ∧ x < n) (irange 0 n).length (by rw [irange_len]; omega)
      ⟨p, irange 0 n, [], none, rfl, rfl, by rw [irange_len]; simp; omega, by rw [List.append_nil]; exact (irange_rising n).nodup, by rw [List.append_nil]; exact (irange_rising n).rng⟩ ?_
    rintro m s ⟨p, left, found, z, rfl, rfl, hlen, hnd, hr⟩
    ((repeat walk_at "ev"); (try conv => whnf))
    refine ⟨fun _ => ?_, fun hc => ?_⟩
    · ((repeat walk_at "ev"); (try conv => whnf))
      refine fq_ret rfl ⟨sortI found, _, sortI_rising (hnd.sublist (List.sublist_append_right ..)) (fun x hx => hr x (List.mem_append_right _ hx)), rfl, rfl, rfl⟩
    · have hpos : 0 < left.length := by
        cases left with
        | nil => simp at hc
        | cons a l => simp
      ((repeat walk_at "ev"); (try conv => whnf))
      refine dr h1 rfl (by rw [dI_len]; omega) (by rw [dI_len]; omega) (fun w' p_w w0 w1 => ?_)
      rw [dI_len] at w1
      ((repeat ((try conv => whnf); first | refine po (mmd_pop1 w0 w1 (by omega)) ?_ | walk_at "ev")); (try conv => whnf))
      have hperm := gI_perm w0 w1
      have hel : (left.eraseIdx w'.toNat).length + 1 = left.length := by
        have := hperm.length_eq
        simpa using this
      generalize gI 0 left w' = place at *
      generalize left.eraseIdx w'.toNat = left' at *
      have hnd2 : (left' ++ (found ++ [place])).Nodup := by
        refine (List.Perm.nodup_iff ?_).mpr hnd
        refine List.Perm.trans ?_ (hperm.append_right found)
        rw [← List.append_assoc]
        exact List.perm_append_singleton place (left' ++ found)
      have hr2 : ∀ x ∈ left' ++ (found ++ [place]), 0 ≤ x ∧ x < n := fun x hx => hr x (by
        refine (hperm.append_right found).mem_iff.mp ?_
        rw [← List.append_assoc] at hx
        exact (List.perm_append_singleton place (left' ++ found)).mem_iff.mp hx)
      refine coIn (g := fun one => .bool (decide ((place, one) ∈ ps) || decide ((one, place) ∈ ps))) rfl (line_le (by omega)) (stands_own (o := .lst (dI found)) rfl) (fun x hx => ?_) ?_
      · ((repeat walk_at "ev"); (try conv => whnf))
      · ((repeat walk_at "ev"); (try conv => whnf))
        refine ifs (fun _ => ?_) (fun _ => ?_)
        · ((repeat walk_at "ev"); (try conv => whnf))
          exact Nx.next ⟨_, by omega, _, left', found ++ [place], _, by rw [← dI_app]; rfl, rfl, by simp; omega, hnd2, hr2⟩
        · ((repeat walk_at "ev"); (try conv => whnf))
          refine Nx.next ⟨_, by omega, _, left', found, _, rfl, rfl, by omega, ?_, fun x hx => hr2 x ?_⟩
          · exact hnd2.sublist (List.Sublist.append_left (List.sublist_append_left ..) _)
          · rcases List.mem_append.mp hx with h | h
            · exact List.mem_append_left _ h
            · exact List.mem_append_right _ (List.mem_append_left _ h)
  obtain ⟨d, fr, os, e, xs, p', hs, hd, hf, ho⟩ := key
  exact ⟨xs, p', hs, by rw [e, hd, hf, ho]⟩
/-! ### a rising tuple of places -/
def sgood (n : Int) (x : D) : Bool := match x with
  | .tuple ys => match intsD ys with
    | some is => decide (is = (irange 0 n).filter fun i => decide (i ∈ is))
    | none => false
  | _ => false
theorem sgood_bad {n : Int} {ys : List D} (h : intsD ys = none) : sgood n (.tuple ys) = false := by
  show (match intsD ys with
    | some is => decide (is = (irange 0 n).filter fun i => decide (i ∈ is))
    | none => false) = false
  rw [h]
theorem filter_rising {n : Int} {xs : List Int} (h : Rising n xs) : xs = (irange 0 n).filter fun i => decide (i ∈ xs) := by
  have h2 : Rising n ((irange 0 n).filter fun i => decide (i ∈ xs)) := (irange_rising n).sub List.filter_sublist
  have hp : xs.Perm ((irange 0 n).filter fun i => decide (i ∈ xs)) := by
    refine (List.perm_ext_iff_of_nodup h.nodup h2.nodup).mpr fun x => ?_
    rw [List.mem_filter, mem_irange, decide_eq_true_iff]
    exact ⟨fun hx => ⟨h.rng x hx, hx⟩, fun hx => hx.2⟩
  exact hp.eq_of_pairwise (fun a b _ _ h1 h2 => by omega) h.srt h2.srt
theorem sgood_ints (n : Int) (xs : List Int) : sgood n (.tuple (dI xs)) = decide (xs = (irange 0 n).filter fun i => decide (i ∈ xs)) := by
  show (match intsD (dI xs) with
    | some is => decide (is = (irange 0 n).filter fun i => decide (i ∈ is))
    | none => false) = _
  rw [intsD_map]
theorem sgood_rising {n : Int} {xs : List Int} (h : Rising n xs) : sgood n (.tuple (dI xs)) = true := by
  rw [sgood_ints]
  exact decide_eq_true (filter_rising h)
theorem rising_sgood {n : Int} {xs : List Int} (h : sgood n (.tuple (dI xs)) = true) : Rising n xs := by
  rw [sgood_ints, decide_eq_true_iff] at h
  rw [h]
  exact (irange_rising n).sub List.filter_sublist
theorem sgood_not {n : Int} {xs : List Int} (h : ¬ Rising n xs) : sgood n (.tuple (dI xs)) = false := by
  cases e : sgood n (.tuple (dI xs)) with
  | false => rfl
  | true => exact absurd (rising_sgood e) h
/-- no tuple is long -/
def lenOk (x : D) : Prop := ∀ ys, x = .tuple ys → ys.length ≤ 100000
theorem lenOk_tup {ys : List D} (h : ys.length ≤ 100000) : lenOk (.tuple ys) := fun zs e => by cases e; exact h
abbrev S_l_odd_some (g : Sem) : Prop := ∀ (p : Int × Int × Int) (n : Int) (xs : List Int), 1 ≤ n → n ≤ 40 → Rising n xs → ∃ x p', sgood n x = false ∧ lenOk x ∧ g [.own (Pt p) false, .d (.int n), .d (.tuple (dI xs))] = .ret x false [.own (Pt p') false, .d (.int n), .d (.tuple (dI xs))]
theorem t_l_odd_some {φ : Phi} {c1 : Nat} (h1 : S_l_draw (φ c1)) : S_l_odd_some (fnV 4 3 (i_l_odd_some c1) φ) := by
  intro p n xs n1 n2 hr
  have hlen := hr.len
  have key : ∃ d fr os, fnV 4 3 (i_l_odd_some c1) φ [.own (Pt p) false, .d (.int n), .d (.tuple (dI xs))] = .ret d fr os ∧ ∃ x p', sgood n x = false ∧ lenOk x ∧ d = x ∧ fr = false ∧ os = [.own (Pt p') false, .d (.int n), .d (.tuple (dI xs))] := by
    refine p_fn rfl rfl ?_
    (try simp only [List.map_cons, List.map_nil, List.replicate_succ, List.replicate_zero, List.cons_append, List.nil_append, Nat.reduceSub, Nat.reduceAdd])
    ((repeat walk_at "ev"); (try conv => whnf))
    refine dr h1 rfl (by decide) (by decide) (fun b p_b b0 b1 => ?_)
    ((repeat walk_at "ev"); (try conv => whnf))
    refine dr h1 rfl (by omega) (by omega) (fun w p_w w0 w1 => ?_)
    ((repeat walk_at "ev"); (try conv => whnf))
    obtain ⟨x, hx, e⟩ := atI_mem (xs := [PyData.list (dI xs), .none, .int 0, .str "", .dict [], .tuple (dI xs ++ [.int n]), .tuple ([.int (-1)] ++ dI xs), .tuple (dI xs ++ [.int 0, .int 0]), .tuple [.bool true], .tuple [.bool false]] ++ [PyData.tuple (dI xs ++ [.none]), .tuple [.int (n + b)], .tuple [.str "0"], .tuple [.tuple (dI xs)], .bool true, .tuple ([.int 1, .int 0] ++ dI xs)]) (i := w) w0 (by simp; omega)
    refine po e ?_
    ((repeat walk_at "ev"); (try conv => whnf))
    refine fq_ret rfl ⟨x, _, ?_, ?_, rfl, rfl, rfl⟩
    · have b1 : ¬ Rising n (xs ++ [n]) := fun h => by have := h.rng n (by simp); omega
      have b2 : ¬ Rising n (-1 :: xs) := fun h => by have := h.rng (-1) (by simp); omega
      have b3 : ¬ Rising n (xs ++ [0, 0]) := fun h => by
        have := (List.pairwise_append.mp h.srt).2.1
        simp at this
      have b4 : ¬ Rising n [n + b] := fun h => by have := h.rng (n + b) (by simp); omega
      have b5 : ¬ Rising n (1 :: 0 :: xs) := fun h => by
        have := List.pairwise_cons.mp h.srt
        have := this.1 0 (by simp)
        omega
      simp only [List.cons_append, List.nil_append, List.mem_cons, List.not_mem_nil, or_false] at hx
      rcases hx with rfl | rfl | rfl | rfl | rfl | rfl | rfl | rfl | rfl | rfl | rfl | rfl | rfl | rfl | rfl | rfl
      · rfl
      · rfl
      · rfl
      · rfl
      · rfl
      · exact (congrArg (fun z => sgood n (.tuple z)) (dI_app xs [n])).trans (sgood_not b1)
      · exact sgood_not b2
      · exact (congrArg (fun z => sgood n (.tuple z)) (dI_app xs [0, 0])).trans (sgood_not b3)
      · rfl
      · rfl
      · exact sgood_bad (intsD_bad xs _ rfl)
      · exact sgood_not b4
      · rfl
      · rfl
      · rfl
      · exact sgood_not b5
    · simp only [List.cons_append, List.nil_append, List.mem_cons, List.not_mem_nil, or_false] at hx
      rcases hx with rfl | rfl | rfl | rfl | rfl | rfl | rfl | rfl | rfl | rfl | rfl | rfl | rfl | rfl | rfl | rfl <;> intro ys e <;> cases e <;> simp [dI_len] <;> omega
  obtain ⟨d, fr, os, e, x, p', h1, h2, hd, hf, ho⟩ := key
  exact ⟨x, p', h1, h2, by rw [e, hd, hf, ho]⟩
end Ev
/-! Holds, looked at. -/
namespace Ev
open PySem
local macro_rules | `(tactic| walk_at "ev") => `(tactic| ((try conv => whnf); (first | (guard_target =~ Po 0 _ _; refine po (by first | rfl | exact o2_mod _ _ (by omega) | exact o2_fdiv _ _ (by omega) (by omega) | exact o2_mulS (by omega) | exact o2_mulL1 (by omega) (by omega) | exact o2_mulT1 (by omega) (by omega) | exact o2_addL _ _ (by simp only [dI_len, dP_len, dB_len, dOB_len, dO_len, dT_len, List.length_append, List.length_cons, List.length_nil, List.length_map, List.length_replicate, List.length_reverse, List.length_take, List.length_drop]; omega) | exact o2_addT _ _ (by simp only [dI_len, dP_len, dB_len, dOB_len, dO_len, dT_len, List.length_append, List.length_cons, List.length_nil, List.length_map, List.length_replicate, List.length_reverse, List.length_take, List.length_drop]; omega) | exact o2_pow _ _ (by omega) (by omega) (by omega)) ?_) | (guard_target =~ Po 2 _ _; refine po (by with_reducible first | exact cp_eqLN _ | exact cp_neLN _ | exact cp_eqTN _ | exact cp_neTN _ | exact cp_eqI _ _ | exact cp_neI _ _ | exact cp_ltI _ _ | exact cp_leI _ _ | exact cp_gtI _ _ | exact cp_geI _ _ | exact cp_eqB _ _ | exact cp_neB _ _ | exact cp_inTI _ _ | exact cp_ninTI _ _ | exact cp_inLI _ _ | exact cp_ninLI _ _ | exact cp_inTP _ _ _ | exact cp_ninTP _ _ _ | exact cp_inLP _ _ _ | exact cp_inLB _ _ | exact cp_ninLB _ _ | exact cp_inTB _ _ | exact cp_eqTI _ _ | exact cp_neTI _ _ | exact cp_eqL _ _ | exact cp_neL _ _ | exact cp_eqLO _ _ | exact cp_eqTO _ _ | exact cp_neTO _ _ | exact cp_neLOB _ _ | exact cp_neLT _ _ | exact cp_inLOBb _ _ | exact cp_inLOBn _ | exact cp_ninLOBn _ | exact cp_inLOi _ _ | exact cp_inLOn _ | exact cp_ninLOn _ | exact cp_isNO _ | exact cp_notNO _ | exact cp_isNOB _ | exact cp_notNOB _ | rfl) ?_) | (guard_target =~ Po 13 _ _; refine po (by first | with_reducible rfl | rfl | exact bq_all _ | exact bq_any _ | exact bq_all' _ _ | exact bq_any' _ _ | exact bi_sortI _ | exact bi_sortP _) ?_) | (guard_target =~ Po 6 _ _; refine po (by first | exact mmd_append (by simp only [dI_len, dP_len, dB_len, dOB_len, dO_len, dT_len, List.length_append, List.length_cons, List.length_nil, List.length_map, List.length_replicate, List.length_reverse, List.length_take, List.length_drop]; omega) | exact mmd_extend (by simp only [dI_len, dP_len, dB_len, dOB_len, dO_len, dT_len, List.length_append, List.length_cons, List.length_nil, List.length_map, List.length_replicate, List.length_reverse, List.length_take, List.length_drop]; omega) | rfl) ?_) | (guard_target =~ Po 10 _ _; refine po (by first | exact sl_Tk _ (by omega) | exact sl_Lk _ (by omega) | exact sl_Td _ (by omega) | exact sl_Ld _ (by omega)) ?_) | (guard_target =~ Po 20 _ _; refine po (by first | rfl | exact ixN_ok (by omega) (by simp only [dI_len, dP_len, dB_len, dOB_len, dO_len, dT_len, List.length_append, List.length_cons, List.length_nil, List.length_map, List.length_replicate, List.length_reverse, List.length_take, List.length_drop]; omega)) ?_) | refine po rfl ?_ | apply jt_or | apply jt_and | refine fun (hp : (_ : Bool) = false) => ?_ | refine fun (hp : (_ : Bool) = true) => ?_ | exact And.intro rfl rfl | apply jv_or | apply jv_and | refine ran1 (by omega) ?_ | refine ran2 (by omega) (by omega) ?_ | refine Nx.ret ?_ | exact fq_ret rfl ⟨rfl, rfl, rfl⟩ | exact fq_next rfl ⟨rfl, rfl, rfl⟩ | refine And.intro rfl ?_ | apply jv_chain)))

abbrev S_p_some_good (g : Sem) : Prop := ∀ (n : Int) (ps : List (Int × Int)) (x : D), 1 ≤ n → n ≤ 40 → lenOk x → g [.d (webD n ps), .d x] = .ret (.bool (sgood n x)) false [.d (webD n ps), .d x]
theorem not_tuple {x : D} : (∃ ys, x = .tuple ys) ∨ isiD x .tuple = false := by cases x <;> first | exact .inl ⟨_, rfl⟩ | exact .inr rfl
theorem t_p_some_good {φ : Phi} {c1 : Nat} (h1 : S_p_is_whole (φ c1)) : S_p_some_good (fnV 3 2 (i_p_some_good c1) φ) := by
  intro n ps x n1 n2 hl
  refine p_fnE rfl rfl ?_
  (try simp only [List.map_cons, List.map_nil, List.replicate_succ, List.replicate_zero, List.cons_append, List.nil_append, Nat.reduceSub, Nat.reduceAdd])
  rcases not_tuple (x := x) with ⟨ys, rfl⟩ | hx
  · have hl := hl ys rfl
    (conv => whnf)
    refine jt_or (p := false) (q := !(ys.all whole)) ?_ (fun _ => ?_) ?_
    · ((repeat walk_at "ev"); (try conv => whnf))
    · ((repeat walk_at "ev"); (try conv => whnf))
      refine coDn (g := fun x => .bool (whole x)) rfl (line_le (by omega)) rfl (fun x hx => ?_) ?_
      · ((repeat ((try conv => whnf); first | refine clp rfl rfl rfl (h1 _) ?_ | walk_at "ev")); (try conv => whnf))
      · ((repeat walk_at "ev"); (try conv => whnf))
    · (conv => whnf)
      cases e : intsD ys with
      | none =>
        rw [sgood_bad e]
        refine ifsT (by rw [all_whole, e]; rfl) ?_
        ((repeat walk_at "ev"); (try conv => whnf))
      | some is =>
        have e2 := intsD_some e
        subst e2
        rw [sgood_ints]
        refine ifsF (by rw [all_whole, e]; rfl) ?_
        ((repeat walk_at "ev"); (try conv => whnf))
        refine coI (p := fun i => decide (i ∈ is)) (g := fun i => .int i) rfl (line_le (by rw [irange_len]; omega)) rfl (fun i hi => ?_) (fun i hi hp => ?_) ?_
        · ((repeat walk_at "ev"); (try conv => whnf))
        · ((repeat walk_at "ev"); (try conv => whnf))
        · rw [show (((irange 0 n).filter fun i => decide (i ∈ is)).map fun i => PyData.int i) = dI ((irange 0 n).filter fun i => decide (i ∈ is)) from rfl]
          ((repeat walk_at "ev"); (try conv => whnf))
  · have hs : sgood n x = false := by cases x <;> first | rfl | cases hx
    rw [hs]
    (conv => whnf)
    refine jt_or (p := true) (q := true) ?_ (fun h => by cases h) ?_
    · ((repeat walk_at "ev"); (try conv => whnf))
      exact ⟨by rw [hx]; rfl, rfl⟩
    · (conv => whnf)
      refine ifsT rfl ?_
      ((repeat walk_at "ev"); (try conv => whnf))
/-! ### ties, losses -/
def firstTie (ps : List (Int × Int)) (xs : List Int) : Option (Int × Int) := ps.find? fun p => decide (p.1 ∈ xs) && decide (p.2 ∈ xs)
def tieD : Option (Int × Int) → D
  | none => .none
  | some p => .tuple [.str "tied", .int p.1, .int p.2]
theorem cp_tie (o : Option (Int × Int)) : cpD .notN (tieD o) .none = some o.isSome := by cases o <;> rfl
def isLost (ps : List (Int × Int)) (xs : List Int) (i : Int) : Bool := !decide (i ∈ xs) && !((leads ps i).any fun o => decide (o ∈ xs))
def lostD : Option Int → D
  | none => .none
  | some p => .tuple [.str "lost", .int p]
def faultD (n : Int) (ps : List (Int × Int)) (xs : List Int) : D := match firstTie ps xs with
  | some p => tieD (some p)
  | none => lostD ((irange 0 n).find? (isLost ps xs))
theorem find_none {α : Type} {p : α → Bool} : ∀ {xs : List α}, (∀ x ∈ xs, p x = false) → xs.find? p = none := by
  intro xs h
  rw [List.find?_eq_none]
  exact fun x hx => by simp [h x hx]
theorem find_some {α : Type} {p : α → Bool} {xs done rest : List α} {x : α} (e : xs = done ++ x :: rest) (h : ∀ y ∈ done, p y = false) (hx : p x = true) : xs.find? p = some x := by
  rw [e, List.find?_append, find_none h, List.find?_cons_of_pos hx]
  rfl
theorem snoc_all {α : Type} {P : α → Prop} {done : List α} {x : α} (h : ∀ y ∈ done, P y) (hx : P x) : ∀ y ∈ done ++ [x], P y := fun y hy => by
  rcases List.mem_append.mp hy with z | z
  · exact h y z
  · rw [List.mem_singleton.mp z]; exact hx
abbrev S_p_first_tie (g : Sem) : Prop := ∀ (n : Int) (ps : List (Int × Int)) (xs : List Int), g [.d (webD n ps), .d (.tuple (dI xs))] = .ret (tieD (firstTie ps xs)) false [.d (webD n ps), .d (.tuple (dI xs))]
theorem t_p_first_tie {φ : Phi} : S_p_first_tie (fnV 4 2 i_p_first_tie φ) := by
  intro n ps xs
  refine p_fnE rfl rfl ?_
  (try simp only [List.map_cons, List.map_nil, List.replicate_succ, List.replicate_zero, List.cons_append, List.nil_append, Nat.reduceSub, Nat.reduceAdd])
  ((repeat walk_at "ev"); (try conv => whnf))
  refine pfor (cc := pairD) rfl (fun done rest s => ∃ z1 z2, s = [some (.d (webD n ps)), some (.d (.tuple (dI xs))), z1, z2] ∧ ∀ p ∈ done, (decide (p.1 ∈ xs) && decide (p.2 ∈ xs)) = false) ⟨none, none, rfl, fun p h => by cases h⟩ ?_ ?_
  · rintro done x rest s hd ⟨z1, z2, rfl, h⟩
    refine ⟨_, rfl, ?_⟩
    ((repeat walk_at "ev"); (try conv => whnf))
    refine ifs (fun hc => ?_) (fun hc => ?_)
    · ((repeat walk_at "ev"); (try conv => whnf))
      refine fq_ret rfl ⟨?_, rfl, rfl⟩
      rw [firstTie, find_some hd h hc]
      rfl
    · ((repeat walk_at "ev"); (try conv => whnf))
      exact Nx.next ⟨_, _, rfl, snoc_all h hc⟩
  · rintro s ⟨z1, z2, rfl, h⟩
    ((repeat walk_at "ev"); (try conv => whnf))
    refine fq_ret rfl ⟨?_, rfl, rfl⟩
    rw [firstTie, find_none h]
    rfl
abbrev S_p_is_lost (g : Sem) : Prop := ∀ (n : Int) (ps : List (Int × Int)) (xs : List Int) (i : Int), IsWeb n ps → 0 ≤ i → i < n → g [.d (webD n ps), .d (.tuple (dI xs)), .d (.int i)] = .ret (.bool (isLost ps xs i)) false [.d (webD n ps), .d (.tuple (dI xs)), .d (.int i)]
theorem t_p_is_lost {φ : Phi} {c1 : Nat} (h1 : S_p_leads_to (φ c1)) : S_p_is_lost (fnV 4 3 (i_p_is_lost c1) φ) := by
  intro n ps xs i w h0 hn
  refine p_fnE rfl rfl ?_
  (try simp only [List.map_cons, List.map_nil, List.replicate_succ, List.replicate_zero, List.cons_append, List.nil_append, Nat.reduceSub, Nat.reduceAdd])
  ((repeat ((try conv => whnf); first | refine clp rfl rfl rfl (h1 _ _ _ w h0 hn) ?_ | walk_at "ev")); (try conv => whnf))
  · refine coIn (g := fun o => .bool (decide (o ∈ xs))) rfl (line_le (by have := leads_len ps i; have := w.len; omega)) rfl (fun x hx => ?_) ?_
    · ((repeat walk_at "ev"); (try conv => whnf))
    · ((repeat walk_at "ev"); (try conv => whnf))
  · ((repeat walk_at "ev"); (try conv => whnf))
abbrev S_p_fault_of (g : Sem) : Prop := ∀ (n : Int) (ps : List (Int × Int)) (xs : List Int), IsWeb n ps → g [.d (webD n ps), .d (.tuple (dI xs))] = .ret (faultD n ps xs) false [.d (webD n ps), .d (.tuple (dI xs))]
theorem t_p_fault_of {φ : Phi} {c1 c2 : Nat} (h1 : S_p_first_tie (φ c1)) (h2 : S_p_is_lost (φ c2)) : S_p_fault_of (fnV 4 2 (i_p_fault_of c1 c2) φ) := by
  intro n ps xs w
  have n1 := w.n1
  have n2 := w.n2
  refine p_fnE rfl rfl ?_
  (try simp only [List.map_cons, List.map_nil, List.replicate_succ, List.replicate_zero, List.cons_append, List.nil_append, Nat.reduceSub, Nat.reduceAdd])
  ((repeat ((try conv => whnf); first | refine clp rfl rfl rfl (h1 _ _ _) ?_ | walk_at "ev")); (try conv => whnf))
  cases e : firstTie ps xs with
  | some p =>
    ((repeat walk_at "ev"); (try conv => whnf))
    refine ifsT rfl ?_
    ((repeat walk_at "ev"); (try conv => whnf))
    refine fq_ret rfl ⟨?_, rfl, rfl⟩
    simp only [faultD, e]
  | none =>
    ((repeat walk_at "ev"); (try conv => whnf))
    refine ifsF rfl ?_
    ((repeat walk_at "ev"); (try conv => whnf))
    refine pfor (cc := PyData.int) rfl (fun done rest s => ∃ z1, s = [some (.d (webD n ps)), some (.d (.tuple (dI xs))), some (.d .none), z1] ∧ ∀ p ∈ done, isLost ps xs p = false) ⟨none, rfl, fun p h => by cases h⟩ ?_ ?_
    · rintro done x rest s hd ⟨z1, rfl, h⟩
      have hl := lt_of_split hd
      refine ⟨_, rfl, ?_⟩
      ((repeat ((try conv => whnf); first | refine clp rfl rfl rfl (h2 _ _ _ _ w (by omega) (by omega)) ?_ | walk_at "ev")); (try conv => whnf))
      refine ifs (fun hc => ?_) (fun hc => ?_)
      · ((repeat walk_at "ev"); (try conv => whnf))
        refine fq_ret rfl ⟨?_, rfl, rfl⟩
        simp only [faultD, e, find_some hd h hc]
        rfl
      · ((repeat walk_at "ev"); (try conv => whnf))
        exact Nx.next ⟨_, rfl, snoc_all h hc⟩
    · rintro s ⟨z1, rfl, h⟩
      ((repeat walk_at "ev"); (try conv => whnf))
      refine fq_ret rfl ⟨?_, rfl, rfl⟩
      simp only [faultD, e, find_none h]
      rfl
def isHold (n : Int) (ps : List (Int × Int)) (xs : List Int) : Bool := match faultD n ps xs with
  | .none => true
  | _ => false
def hgood (n : Int) (ps : List (Int × Int)) (x : D) : Bool := sgood n x && (match x with
  | .tuple ys => match intsD ys with
    | some is => isHold n ps is
    | none => false
  | _ => false)
theorem hgood_bad {n : Int} {ps : List (Int × Int)} {x : D} (h : sgood n x = false) : hgood n ps x = false := by
  unfold hgood
  rw [h]; rfl
theorem hgood_rising {n : Int} {ps : List (Int × Int)} {xs : List Int} (h : Rising n xs) : hgood n ps (.tuple (dI xs)) = isHold n ps xs := by
  have e : hgood n ps (.tuple (dI xs)) = (sgood n (.tuple (dI xs)) && (match intsD (dI xs) with
    | some is => isHold n ps is
    | none => false)) := rfl
  rw [e, sgood_rising h, intsD_map]; rfl
theorem sgood_shape {n : Int} {x : D} (h : sgood n x = true) : ∃ xs, x = .tuple (dI xs) ∧ Rising n xs := by
  cases x with
  | tuple ys =>
    cases e : intsD ys with
    | none => rw [sgood_bad e] at h; cases h
    | some is =>
      have e2 := intsD_some e
      subst e2
      exact ⟨is, rfl, rising_sgood h⟩
  | _ => cases h
abbrev S_p_hold_good (g : Sem) : Prop := ∀ (n : Int) (ps : List (Int × Int)) (x : D), IsWeb n ps → lenOk x → g [.d (webD n ps), .d x] = .ret (.bool (hgood n ps x)) false [.d (webD n ps), .d x]
theorem t_p_hold_good {φ : Phi} {c1 c2 : Nat} (h1 : S_p_some_good (φ c1)) (h2 : S_p_fault_of (φ c2)) : S_p_hold_good (fnV 2 2 (i_p_hold_good c1 c2) φ) := by
  intro n ps x w hl
  refine p_fnE rfl rfl ?_
  (try simp only [List.map_cons, List.map_nil, List.replicate_succ, List.replicate_zero, List.cons_append, List.nil_append, Nat.reduceSub, Nat.reduceAdd])
  (conv => whnf)
  cases hs : sgood n x with
  | false =>
    rw [hgood_bad hs]
    refine jv_and (p := false) (q := false) ?_ (fun h => by cases h) ?_
    · ((repeat ((try conv => whnf); first | refine clp rfl rfl rfl (h1 _ _ _ w.n1 w.n2 hl) ?_ | walk_at "ev")); (try conv => whnf))
      exact ⟨by rw [hs], rfl⟩
    · ((repeat walk_at "ev"); (try conv => whnf))
  | true =>
    obtain ⟨xs, rfl, hr⟩ := sgood_shape hs
    rw [hgood_rising hr]
    refine jv_and (p := true) (q := isHold n ps xs) ?_ (fun h => ?_) ?_
    · ((repeat ((try conv => whnf); first | refine clp rfl rfl rfl (h1 _ _ _ w.n1 w.n2 hl) ?_ | walk_at "ev")); (try conv => whnf))
      exact ⟨by rw [hs], rfl⟩
    · ((repeat ((try conv => whnf); first | refine clp rfl rfl rfl (h2 _ _ _ w) ?_ | refine po (cq_isN _) ?_ | walk_at "ev")); (try conv => whnf))
    · ((repeat walk_at "ev"); (try conv => whnf))
/-- a name that has nothing, or a datum -/
abbrev od (z : Option D) : Option SV := z.map SV.d
theorem empty_filter {α : Type} (l : List α) (p : α → Bool) : (l.filter p).isEmpty = !l.any p := by
  induction l with
  | nil => rfl
  | cons x l ih =>
    rw [List.any_cons]
    cases h : p x with
    | true => rw [List.filter_cons_of_pos h]; rfl
    | false => rw [List.filter_cons_of_neg (by simp [h]), ih]; rfl
abbrev S_l_fault (g : Sem) : Prop := ∀ (n : Int) (ps : List (Int × Int)) (xs : List Int), 1 ≤ n → n ≤ 1000 → ps.length ≤ 10000 → g [.d (webD n ps), .d (.tuple (dI xs))] = .ret (faultD n ps xs) false [.d (webD n ps), .d (.tuple (dI xs))]
theorem t_l_fault {φ : Phi} {c1 : Nat} (h1 : S_l_nexts (φ c1)) : S_l_fault (fnV 5 2 (i_l_fault c1) φ) := by
  intro n ps xs n1 n2 hps
  refine p_fnE rfl rfl ?_
  (try simp only [List.map_cons, List.map_nil, List.replicate_succ, List.replicate_zero, List.cons_append, List.nil_append, Nat.reduceSub, Nat.reduceAdd])
  ((repeat walk_at "ev"); (try conv => whnf))
  refine pfor (cc := pairD) rfl (fun done rest s => ∃ z1 z2, s = [some (.d (webD n ps)), some (.d (.tuple (dI xs))), none, od z1, od z2] ∧ ∀ p ∈ done, (decide (p.1 ∈ xs) && decide (p.2 ∈ xs)) = false) ⟨none, none, rfl, fun p h => by cases h⟩ ?_ ?_
  · rintro done x rest s hd ⟨z1, z2, rfl, h⟩
    refine ⟨_, rfl, ?_⟩
    ((repeat walk_at "ev"); (try conv => whnf))
    refine ifs (fun hc => ?_) (fun hc => ?_)
    · ((repeat walk_at "ev"); (try conv => whnf))
      refine fq_ret rfl ⟨?_, rfl, rfl⟩
      simp only [faultD, firstTie, find_some hd h hc]
      rfl
    · ((repeat walk_at "ev"); (try conv => whnf))
      exact Nx.next ⟨some _, some _, rfl, snoc_all h hc⟩
  · rintro s ⟨z1, z2, rfl, h⟩
    have e : firstTie ps xs = none := find_none h
    ((repeat walk_at "ev"); (try conv => whnf))
    refine pfor (cc := PyData.int) rfl (fun done rest s => ∃ z0, s = [some (.d (webD n ps)), some (.d (.tuple (dI xs))), z0, od z1, od z2] ∧ ∀ p ∈ done, isLost ps xs p = false) ⟨none, rfl, fun p h => by cases h⟩ ?_ ?_
    · rintro done x rest s hd ⟨z0, rfl, h⟩
      have hl := lt_of_split hd
      refine ⟨_, rfl, ?_⟩
      (conv => whnf)
      refine jt_and (p := !decide (x ∈ xs)) (q := !((leads ps x).any fun o => decide (o ∈ xs))) ?_ (fun _ => ?_) ?_
      · ((repeat walk_at "ev"); (try conv => whnf))
      · rw [← empty_filter]
        have hln := leads_len ps x
        ((repeat ((try conv => whnf); first | refine clp rfl rfl rfl (h1 _ _ _ (by omega)) ?_ | walk_at "ev")); (try conv => whnf))
        refine coI (p := fun o => decide (o ∈ xs)) (g := fun o => .int o) (by cases z2 <;> rfl) (line_le (by omega)) rfl (fun x hx => ?_) (fun x hx hp => ?_) ?_
        · ((repeat walk_at "ev"); (try conv => whnf))
        · ((repeat walk_at "ev"); (try conv => whnf))
        · rw [show ((leads ps x).filter fun o => decide (o ∈ xs)).map (fun o => PyData.int o) = dI ((leads ps x).filter fun o => decide (o ∈ xs)) from rfl]
          ((repeat walk_at "ev"); (try conv => whnf))
      · (conv => whnf)
        refine ifs (fun hc => ?_) (fun hc => ?_)
        · ((repeat walk_at "ev"); (try conv => whnf))
          refine fq_ret rfl ⟨?_, rfl, rfl⟩
          simp only [faultD, e, find_some hd h hc]
          rfl
        · ((repeat walk_at "ev"); (try conv => whnf))
          exact Nx.next ⟨_, rfl, snoc_all h hc⟩
    · rintro s ⟨z0, rfl, h⟩
      ((repeat walk_at "ev"); (try conv => whnf))
      refine fq_ret rfl ⟨?_, rfl, rfl⟩
      simp only [faultD, e, find_none h]
      rfl
/-! ### half holds -/
def isHalf (ps : List (Int × Int)) (xs : List Int) : Bool := (firstTie ps xs).isNone && ps.all fun p => !(decide (p.1 ∈ xs) && !((leads ps p.2).any fun o => decide (o ∈ xs)))
def halfgood (n : Int) (ps : List (Int × Int)) (x : D) : Bool := sgood n x && (match x with
  | .tuple ys => match intsD ys with
    | some is => isHalf ps is
    | none => false
  | _ => false)
theorem halfgood_bad {n : Int} {ps : List (Int × Int)} {x : D} (h : sgood n x = false) : halfgood n ps x = false := by
  unfold halfgood
  rw [h]; rfl
theorem halfgood_rising {n : Int} {ps : List (Int × Int)} {xs : List Int} (h : Rising n xs) : halfgood n ps (.tuple (dI xs)) = isHalf ps xs := by
  have e : halfgood n ps (.tuple (dI xs)) = (sgood n (.tuple (dI xs)) && (match intsD (dI xs) with
    | some is => isHalf ps is
    | none => false)) := rfl
  rw [e, sgood_rising h, intsD_map]; rfl
abbrev S_p_half_good (g : Sem) : Prop := ∀ (n : Int) (ps : List (Int × Int)) (x : D), IsWeb n ps → lenOk x → g [.d (webD n ps), .d x] = .ret (.bool (halfgood n ps x)) false [.d (webD n ps), .d x]
theorem t_p_half_good {φ : Phi} {c1 c2 c3 : Nat} (h1 : S_p_some_good (φ c1)) (h2 : S_p_first_tie (φ c2)) (h3 : S_p_leads_to (φ c3)) : S_p_half_good (fnV 5 2 (i_p_half_good c1 c2 c3) φ) := by
  intro n ps x w hl
  refine p_fnE rfl rfl ?_
  (try simp only [List.map_cons, List.map_nil, List.replicate_succ, List.replicate_zero, List.cons_append, List.nil_append, Nat.reduceSub, Nat.reduceAdd])
  (conv => whnf)
  cases hs : sgood n x with
  | false =>
    rw [halfgood_bad hs]
    refine jt_or (p := true) (q := false) ?_ (fun h => by cases h) ?_
    · ((repeat ((try conv => whnf); first | refine clp rfl rfl rfl (h1 _ _ _ w.n1 w.n2 hl) ?_ | walk_at "ev")); (try conv => whnf))
      exact ⟨by rw [hs]; rfl, rfl⟩
    · (conv => whnf)
      refine ifsT rfl ?_
      ((repeat walk_at "ev"); (try conv => whnf))
  | true =>
    obtain ⟨xs, rfl, hr⟩ := sgood_shape hs
    rw [halfgood_rising hr]
    refine jt_or (p := false) (q := (firstTie ps xs).isSome) ?_ (fun h => ?_) ?_
    · ((repeat ((try conv => whnf); first | refine clp rfl rfl rfl (h1 _ _ _ w.n1 w.n2 hl) ?_ | walk_at "ev")); (try conv => whnf))
      exact ⟨by rw [hs]; rfl, rfl⟩
    · ((repeat ((try conv => whnf); first | refine clp rfl rfl rfl (h2 _ _ _) ?_ | refine po (cp_tie _) ?_ | walk_at "ev")); (try conv => whnf))
    · (conv => whnf)
      refine ifs (fun hc => ?_) (fun hc => ?_)
      · ((repeat walk_at "ev"); (try conv => whnf))
        refine fq_ret rfl ⟨?_, rfl, rfl⟩
        unfold isHalf
        cases e : firstTie ps xs with
        | none => rw [e] at hc; cases hc
        | some p => rfl
      · have e : firstTie ps xs = none := by
          cases e : firstTie ps xs with
          | none => rfl
          | some p => rw [e] at hc; cases hc
        ((repeat walk_at "ev"); (try conv => whnf))
        refine pfor (cc := pairD) rfl (fun done rest s => ∃ z1 z2, s = [some (.d (webD n ps)), some (.d (.tuple (dI xs))), z1, z2, none] ∧ ∀ p ∈ done, (decide (p.1 ∈ xs) && !((leads ps p.2).any fun o => decide (o ∈ xs))) = false) ⟨none, none, rfl, fun p h => by cases h⟩ ?_ ?_
        · rintro done p rest s hd ⟨z1, z2, rfl, h⟩
          have hp := w.ok p (by rw [hd]; simp)
          refine ⟨_, rfl, ?_⟩
          (conv => whnf)
          refine jt_and (p := decide (p.1 ∈ xs)) (q := !((leads ps p.2).any fun o => decide (o ∈ xs))) ?_ (fun _ => ?_) ?_
          · ((repeat walk_at "ev"); (try conv => whnf))
          · ((repeat ((try conv => whnf); first | refine clp rfl rfl rfl (h3 _ _ _ w (by omega) (by omega)) ?_ | walk_at "ev")); (try conv => whnf))
            refine coIn (g := fun o => .bool (decide (o ∈ xs))) rfl (line_le (by have := leads_len ps p.2; have := w.len; omega)) rfl (fun x hx => ?_) ?_
            · ((repeat walk_at "ev"); (try conv => whnf))
            · ((repeat walk_at "ev"); (try conv => whnf))
          · (conv => whnf)
            refine ifs (fun hc => ?_) (fun hc => ?_)
            · ((repeat walk_at "ev"); (try conv => whnf))
              refine fq_ret rfl ⟨?_, rfl, rfl⟩
              have h2 : (ps.all fun p => !(decide (p.1 ∈ xs) && !((leads ps p.2).any fun o => decide (o ∈ xs)))) = false := by
                rw [List.all_eq_false]
                exact ⟨p, by rw [hd]; simp, by rw [hc]; decide⟩
              unfold isHalf
              rw [h2, Bool.and_false]
            · ((repeat walk_at "ev"); (try conv => whnf))
              exact Nx.next ⟨_, _, rfl, snoc_all h hc⟩
        · rintro s ⟨z1, z2, rfl, h⟩
          ((repeat walk_at "ev"); (try conv => whnf))
          refine fq_ret rfl ⟨?_, rfl, rfl⟩
          have h2 : (ps.all fun p => !(decide (p.1 ∈ xs) && !((leads ps p.2).any fun o => decide (o ∈ xs)))) = true := by
            rw [List.all_eq_true]
            exact fun p hp => by rw [h p hp]; rfl
          unfold isHalf
          rw [h2, e]
          rfl
abbrev S_l_half (g : Sem) : Prop := ∀ (n : Int) (ps : List (Int × Int)) (xs : List Int), ps.length ≤ 10000 → g [.d (webD n ps), .d (.tuple (dI xs))] = .ret (.bool (isHalf ps xs)) false [.d (webD n ps), .d (.tuple (dI xs))]
theorem isHalf_eq (ps : List (Int × Int)) (xs : List Int) : isHalf ps xs = ps.all fun p => !(decide (p.1 ∈ xs) && (decide (p.2 ∈ xs) || !((leads ps p.2).any fun o => decide (o ∈ xs)))) := by
  unfold isHalf firstTie
  rw [Bool.eq_iff_iff, Bool.and_eq_true, List.all_eq_true, List.all_eq_true, Option.isNone_iff_eq_none, List.find?_eq_none]
  constructor
  · rintro ⟨h1, h2⟩ p hp
    have := h1 p hp
    have := h2 p hp
    cases h3 : decide (p.1 ∈ xs) <;> cases h4 : decide (p.2 ∈ xs) <;> simp_all
  · intro h
    refine ⟨fun p hp => ?_, fun p hp => ?_⟩
    · have := h p hp
      cases h3 : decide (p.1 ∈ xs) <;> cases h4 : decide (p.2 ∈ xs) <;> simp_all
    · have := h p hp
      cases h3 : decide (p.1 ∈ xs) <;> cases h4 : decide (p.2 ∈ xs) <;> simp_all
theorem t_l_half {φ : Phi} {c1 : Nat} (h1 : S_l_nexts (φ c1)) : S_l_half (fnV 6 2 (i_l_half c1) φ) := by
  intro n ps xs hps
  refine p_fnE rfl rfl ?_
  (try simp only [List.map_cons, List.map_nil, List.replicate_succ, List.replicate_zero, List.cons_append, List.nil_append, Nat.reduceSub, Nat.reduceAdd])
  ((repeat walk_at "ev"); (try conv => whnf))
  rw [isHalf_eq]
  refine pfor (cc := pairD) rfl (fun done rest s => ∃ z1 z2 z3, s = [some (.d (webD n ps)), some (.d (.tuple (dI xs))), z1, z2, z3, none] ∧ ∀ p ∈ done, (decide (p.1 ∈ xs) && (decide (p.2 ∈ xs) || !((leads ps p.2).any fun o => decide (o ∈ xs)))) = false) ⟨none, none, none, rfl, fun p h => by cases h⟩ ?_ ?_
  · rintro done p rest s hd ⟨z1, z2, z3, rfl, h⟩
    refine ⟨_, rfl, ?_⟩
    ((repeat walk_at "ev"); (try conv => whnf))
    refine ifs (fun hc => ?_) (fun hc => ?_)
    · have hln := leads_len ps p.2
      ((repeat ((try conv => whnf); first | refine clp rfl rfl rfl (h1 _ _ _ (by omega)) ?_ | walk_at "ev")); (try conv => whnf))
      refine coI (p := fun o => decide (o ∈ xs)) (g := fun o => .int o) rfl (line_le (by omega)) rfl (fun x hx => ?_) (fun x hx hp => ?_) ?_
      · ((repeat walk_at "ev"); (try conv => whnf))
      · ((repeat walk_at "ev"); (try conv => whnf))
      · rw [show ((leads ps p.2).filter fun o => decide (o ∈ xs)).map (fun o => PyData.int o) = dI ((leads ps p.2).filter fun o => decide (o ∈ xs)) from rfl]
        ((repeat walk_at "ev"); (try conv => whnf))
        rw [empty_filter]
        refine ifs (fun hc2 => ?_) (fun hc2 => ?_)
        · ((repeat walk_at "ev"); (try conv => whnf))
          refine fq_ret rfl ⟨?_, rfl, rfl⟩
          have h2 : (ps.all fun p => !(decide (p.1 ∈ xs) && (decide (p.2 ∈ xs) || !((leads ps p.2).any fun o => decide (o ∈ xs))))) = false := by
            rw [List.all_eq_false]
            exact ⟨p, by rw [hd]; simp, by rw [hc, hc2]; decide⟩
          rw [h2]
        · ((repeat walk_at "ev"); (try conv => whnf))
          exact Nx.next ⟨_, _, _, rfl, snoc_all h (by rw [hc, hc2]; rfl)⟩
    · ((repeat walk_at "ev"); (try conv => whnf))
      exact Nx.next ⟨_, _, _, rfl, snoc_all h (by rw [hc]; rfl)⟩
  · rintro s ⟨z1, z2, z3, rfl, h⟩
    ((repeat walk_at "ev"); (try conv => whnf))
    refine fq_ret rfl ⟨?_, rfl, rfl⟩
    have h2 : (ps.all fun p => !(decide (p.1 ∈ xs) && (decide (p.2 ∈ xs) || !((leads ps p.2).any fun o => decide (o ∈ xs))))) = true := by
      rw [List.all_eq_true]
      exact fun p hp => by rw [h p hp]; rfl
    rw [h2]
theorem rising_lenOk {n : Int} {xs : List Int} (h : Rising n xs) (hn : n ≤ 40) : lenOk (.tuple (dI xs)) := lenOk_tup (by have := h.len; rw [dI_len]; omega)
/-- sets of places -/
def PSet (n : Int) (x : D) : Prop := ∃ xs, x = .tuple (dI xs) ∧ Rising n xs
theorem psets (k : Nat) : ∀ x ∈ dT (allSets k), PSet k x := fun x hx => by
  obtain ⟨xs, h, rfl⟩ := List.mem_map.mp hx
  exact ⟨xs, rfl, (allSets_rising k xs h).1⟩
theorem cells_all {c : Int} {m : List Int} : ∀ x ∈ [PyData.int c] ++ dI m, ∃ i, x = .int i := fun x hx => by
  rcases List.mem_append.mp hx with h | h
  · exact ⟨_, List.mem_singleton.mp h⟩
  · obtain ⟨i, _, e⟩ := mem_dI h
    exact ⟨i, e⟩
end Ev
/-! What is refused where places are none. -/
namespace Ev
open PySem
local macro_rules | `(tactic| walk_at "ev") => `(tactic| ((try conv => whnf); (first | (guard_target =~ Po 0 _ _; refine po (by first | rfl | exact o2_mod _ _ (by omega) | exact o2_fdiv _ _ (by omega) (by omega) | exact o2_mulS (by omega) | exact o2_mulL1 (by omega) (by omega) | exact o2_mulT1 (by omega) (by omega) | exact o2_addL _ _ (by simp only [dI_len, dP_len, dB_len, dOB_len, dO_len, dT_len, List.length_append, List.length_cons, List.length_nil, List.length_map, List.length_replicate, List.length_reverse, List.length_take, List.length_drop]; omega) | exact o2_addT _ _ (by simp only [dI_len, dP_len, dB_len, dOB_len, dO_len, dT_len, List.length_append, List.length_cons, List.length_nil, List.length_map, List.length_replicate, List.length_reverse, List.length_take, List.length_drop]; omega) | exact o2_pow _ _ (by omega) (by omega) (by omega)) ?_) | (guard_target =~ Po 2 _ _; refine po (by with_reducible first | exact cp_eqLN _ | exact cp_neLN _ | exact cp_eqTN _ | exact cp_neTN _ | exact cp_eqI _ _ | exact cp_neI _ _ | exact cp_ltI _ _ | exact cp_leI _ _ | exact cp_gtI _ _ | exact cp_geI _ _ | exact cp_eqB _ _ | exact cp_neB _ _ | exact cp_inTI _ _ | exact cp_ninTI _ _ | exact cp_inLI _ _ | exact cp_ninLI _ _ | exact cp_inTP _ _ _ | exact cp_ninTP _ _ _ | exact cp_inLP _ _ _ | exact cp_inLB _ _ | exact cp_ninLB _ _ | exact cp_inTB _ _ | exact cp_eqTI _ _ | exact cp_neTI _ _ | exact cp_eqL _ _ | exact cp_neL _ _ | exact cp_eqLO _ _ | exact cp_eqTO _ _ | exact cp_neTO _ _ | exact cp_neLOB _ _ | exact cp_neLT _ _ | exact cp_inLOBb _ _ | exact cp_inLOBn _ | exact cp_ninLOBn _ | exact cp_inLOi _ _ | exact cp_inLOn _ | exact cp_ninLOn _ | exact cp_isNO _ | exact cp_notNO _ | exact cp_isNOB _ | exact cp_notNOB _ | rfl) ?_) | (guard_target =~ Po 13 _ _; refine po (by first | with_reducible rfl | rfl | exact bq_all _ | exact bq_any _ | exact bq_all' _ _ | exact bq_any' _ _ | exact bi_sortI _ | exact bi_sortP _) ?_) | (guard_target =~ Po 6 _ _; refine po (by first | exact mmd_append (by simp only [dI_len, dP_len, dB_len, dOB_len, dO_len, dT_len, List.length_append, List.length_cons, List.length_nil, List.length_map, List.length_replicate, List.length_reverse, List.length_take, List.length_drop]; omega) | exact mmd_extend (by simp only [dI_len, dP_len, dB_len, dOB_len, dO_len, dT_len, List.length_append, List.length_cons, List.length_nil, List.length_map, List.length_replicate, List.length_reverse, List.length_take, List.length_drop]; omega) | rfl) ?_) | (guard_target =~ Po 10 _ _; refine po (by first | exact sl_Tk _ (by omega) | exact sl_Lk _ (by omega) | exact sl_Td _ (by omega) | exact sl_Ld _ (by omega)) ?_) | (guard_target =~ Po 20 _ _; refine po (by first | rfl | exact ixN_ok (by omega) (by simp only [dI_len, dP_len, dB_len, dOB_len, dO_len, dT_len, List.length_append, List.length_cons, List.length_nil, List.length_map, List.length_replicate, List.length_reverse, List.length_take, List.length_drop]; omega)) ?_) | refine po rfl ?_ | apply jt_or | apply jt_and | refine fun (hp : (_ : Bool) = false) => ?_ | refine fun (hp : (_ : Bool) = true) => ?_ | exact And.intro rfl rfl | apply jv_or | apply jv_and | refine ran1 (by omega) ?_ | refine ran2 (by omega) (by omega) ?_ | refine Nx.ret ?_ | exact fq_ret rfl ⟨rfl, rfl, rfl⟩ | exact fq_next rfl ⟨rfl, rfl, rfl⟩ | refine And.intro rfl ?_ | apply jv_chain)))

abbrev S_p_check_some (g : Sem) : Prop := ∀ (n : Int) (ps : List (Int × Int)) (x : D), 1 ≤ n → n ≤ 40 → lenOk x → (sgood n x = true → g [.d (webD n ps), .d x] = .ret .none false [.d (webD n ps), .d x]) ∧ (sgood n x = false → g [.d (webD n ps), .d x] = .exc 0 [])
theorem t_p_check_some {φ : Phi} {c1 : Nat} (h1 : S_p_some_good (φ c1)) : S_p_check_some (fnV 2 2 (i_p_check_some c1) φ) := by
  intro n ps x n1 n2 hl
  refine ⟨fun hs => p_fnE rfl rfl ?_, fun hs => p_fnX rfl rfl ?_⟩
  · (try simp only [List.map_cons, List.map_nil, List.replicate_succ, List.replicate_zero, List.cons_append, List.nil_append, Nat.reduceSub, Nat.reduceAdd])
    ((repeat ((try conv => whnf); first | refine clp rfl rfl rfl (h1 _ _ _ n1 n2 hl) ?_ | walk_at "ev")); (try conv => whnf))
    rw [hs]
    refine ifsF rfl ?_
    ((repeat walk_at "ev"); (try conv => whnf))
  · (try simp only [List.map_cons, List.map_nil, List.replicate_succ, List.replicate_zero, List.cons_append, List.nil_append, Nat.reduceSub, Nat.reduceAdd])
    ((repeat ((try conv => whnf); first | refine clp rfl rfl rfl (h1 _ _ _ n1 n2 hl) ?_ | walk_at "ev")); (try conv => whnf))
    rw [hs]
    refine ifsT rfl ?_
    (conv => whnf)
    exact ⟨_, rfl⟩
abbrev S_p_why_not (g : Sem) : Prop := ∀ (n : Int) (ps : List (Int × Int)) (x : D), IsWeb n ps → lenOk x → (∀ xs, x = .tuple (dI xs) → Rising n xs → g [.d (webD n ps), .d x] = .ret (faultD n ps xs) false [.d (webD n ps), .d x]) ∧ (sgood n x = false → g [.d (webD n ps), .d x] = .exc 0 [])
theorem t_p_why_not {φ : Phi} {c1 c2 : Nat} (h1 : S_p_check_some (φ c1)) (h2 : S_p_fault_of (φ c2)) : S_p_why_not (fnV 2 2 (i_p_why_not c1 c2) φ) := by
  intro n ps x w hl
  refine ⟨fun xs e hr => ?_, fun hs => p_fnX rfl rfl ?_⟩
  · subst e
    refine p_fnE rfl rfl ?_
    (try simp only [List.map_cons, List.map_nil, List.replicate_succ, List.replicate_zero, List.cons_append, List.nil_append, Nat.reduceSub, Nat.reduceAdd])
    ((repeat ((try conv => whnf); first | refine clp rfl rfl rfl ((h1 _ _ _ w.n1 w.n2 hl).1 (sgood_rising hr)) ?_ | refine clp rfl rfl rfl (h2 _ _ _ w) ?_ | walk_at "ev")); (try conv => whnf))
  · (try simp only [List.map_cons, List.map_nil, List.replicate_succ, List.replicate_zero, List.cons_append, List.nil_append, Nat.reduceSub, Nat.reduceAdd])
    ((repeat ((try conv => whnf); first | refine clx rfl rfl ((h1 _ _ _ w.n1 w.n2 hl).2 hs) ?_ | walk_at "ev")); (try conv => whnf))
    exact ⟨_, rfl⟩
abbrev S_l_refused (g : Sem) : Prop := ∀ (n : Int) (ps : List (Int × Int)) (x : D), IsWeb n ps → lenOk x → sgood n x = false → g [.d (webD n ps), .d x] = .ret (.bool true) false [.d (webD n ps), .d x]
theorem t_l_refused {φ : Phi} {c1 c2 : Nat} (h1 : S_p_why_not (φ c1)) : S_l_refused (fnV 3 2 (i_l_refused c1 c2) φ) := by
  intro n ps x w hl hs
  refine p_fnE rfl rfl ?_
  (try simp only [List.map_cons, List.map_nil, List.replicate_succ, List.replicate_zero, List.cons_append, List.nil_append, Nat.reduceSub, Nat.reduceAdd])
  (conv => whnf)
  refine ptry ?_
  ((repeat ((try conv => whnf); first | refine clx rfl rfl ((h1 _ _ _ w hl).2 hs) ?_ | walk_at "ev")); (try conv => whnf))
  refine TQ.val (.bool true) (show 2 < 3 by decide) (by kernel_rfl) ?_
  exact fq_ret rfl ⟨rfl, rfl, rfl⟩
abbrev S_l_some (g : Sem) : Prop := S_l_some_of g
theorem t_l_some {φ : Phi} {c1 : Nat} (h1 : S_l_draw (φ c1)) : S_l_some (fnV 4 2 (i_l_some c1) φ) := t_l_some_of h1
end Ev
/-! Faults by anybody. -/
namespace Ev
open PySem
local macro_rules | `(tactic| walk_at "ev") => `(tactic| ((try conv => whnf); (first | (guard_target =~ Po 0 _ _; refine po (by first | rfl | exact o2_mod _ _ (by omega) | exact o2_fdiv _ _ (by omega) (by omega) | exact o2_mulS (by omega) | exact o2_mulL1 (by omega) (by omega) | exact o2_mulT1 (by omega) (by omega) | exact o2_addL _ _ (by simp only [dI_len, dP_len, dB_len, dOB_len, dO_len, dT_len, List.length_append, List.length_cons, List.length_nil, List.length_map, List.length_replicate, List.length_reverse, List.length_take, List.length_drop]; omega) | exact o2_addT _ _ (by simp only [dI_len, dP_len, dB_len, dOB_len, dO_len, dT_len, List.length_append, List.length_cons, List.length_nil, List.length_map, List.length_replicate, List.length_reverse, List.length_take, List.length_drop]; omega) | exact o2_pow _ _ (by omega) (by omega) (by omega)) ?_) | (guard_target =~ Po 2 _ _; refine po (by with_reducible first | exact cp_eqLN _ | exact cp_neLN _ | exact cp_eqTN _ | exact cp_neTN _ | exact cp_eqI _ _ | exact cp_neI _ _ | exact cp_ltI _ _ | exact cp_leI _ _ | exact cp_gtI _ _ | exact cp_geI _ _ | exact cp_eqB _ _ | exact cp_neB _ _ | exact cp_inTI _ _ | exact cp_ninTI _ _ | exact cp_inLI _ _ | exact cp_ninLI _ _ | exact cp_inTP _ _ _ | exact cp_ninTP _ _ _ | exact cp_inLP _ _ _ | exact cp_inLB _ _ | exact cp_ninLB _ _ | exact cp_inTB _ _ | exact cp_eqTI _ _ | exact cp_neTI _ _ | exact cp_eqL _ _ | exact cp_neL _ _ | exact cp_eqLO _ _ | exact cp_eqTO _ _ | exact cp_neTO _ _ | exact cp_neLOB _ _ | exact cp_neLT _ _ | exact cp_inLOBb _ _ | exact cp_inLOBn _ | exact cp_ninLOBn _ | exact cp_inLOi _ _ | exact cp_inLOn _ | exact cp_ninLOn _ | exact cp_isNO _ | exact cp_notNO _ | exact cp_isNOB _ | exact cp_notNOB _ | rfl) ?_) | (guard_target =~ Po 13 _ _; refine po (by first | with_reducible rfl | rfl | exact bq_all _ | exact bq_any _ | exact bq_all' _ _ | exact bq_any' _ _ | exact bi_sortI _ | exact bi_sortP _) ?_) | (guard_target =~ Po 6 _ _; refine po (by first | exact mmd_append (by simp only [dI_len, dP_len, dB_len, dOB_len, dO_len, dT_len, List.length_append, List.length_cons, List.length_nil, List.length_map, List.length_replicate, List.length_reverse, List.length_take, List.length_drop]; omega) | exact mmd_extend (by simp only [dI_len, dP_len, dB_len, dOB_len, dO_len, dT_len, List.length_append, List.length_cons, List.length_nil, List.length_map, List.length_replicate, List.length_reverse, List.length_take, List.length_drop]; omega) | rfl) ?_) | (guard_target =~ Po 10 _ _; refine po (by first | exact sl_Tk _ (by omega) | exact sl_Lk _ (by omega) | exact sl_Td _ (by omega) | exact sl_Ld _ (by omega)) ?_) | (guard_target =~ Po 20 _ _; refine po (by first | rfl | exact ixN_ok (by omega) (by simp only [dI_len, dP_len, dB_len, dOB_len, dO_len, dT_len, List.length_append, List.length_cons, List.length_nil, List.length_map, List.length_replicate, List.length_reverse, List.length_take, List.length_drop]; omega)) ?_) | refine po rfl ?_ | apply jt_or | apply jt_and | refine fun (hp : (_ : Bool) = false) => ?_ | refine fun (hp : (_ : Bool) = true) => ?_ | exact And.intro rfl rfl | apply jv_or | apply jv_and | refine ran1 (by omega) ?_ | refine ran2 (by omega) (by omega) ?_ | refine Nx.ret ?_ | exact fq_ret rfl ⟨rfl, rfl, rfl⟩ | exact fq_next rfl ⟨rfl, rfl, rfl⟩ | refine And.intro rfl ?_ | apply jv_chain)))

def inW (n : Int) (y : D) : Bool := match y with
  | .int i => decide (0 ≤ i) && decide (i < n)
  | _ => false
theorem inW_not {n : Int} {y : D} (h : whole y = false) : inW n y = false := by cases y <;> first | rfl | cases h
theorem eqv_strD (s t : Str) : PyData.eqv (.str s) (.str t) = decide (s = t) := by
  show (s == t) = _
  rw [Bool.eq_iff_iff, beq_iff_eq, decide_eq_true_iff]
theorem ix_hd (y : D) (zs : List D) : ixD (.tuple (y :: zs)) (.int 0) = some y := atI_gI (xs := y :: zs) PyData.none (i := 0) (by omega) (by simp)
theorem ok_tied : PyData.strOk "tied" = true := by decide +kernel
theorem ok_lost : PyData.strOk "lost" = true := by decide +kernel
theorem cp_eqS {s t : Str} (hs : PyData.strOk s = true) (ht : PyData.strOk t = true) : cpD .eq (.str s) (.str t) = some (decide (s = t)) := (cq_eq ((sh_str hs).shaped (by omega)) ((sh_str ht).shaped (by omega))).trans (congrArg some (eqv_strD s t))
theorem cp_neS {s t : Str} (hs : PyData.strOk s = true) (ht : PyData.strOk t = true) : cpD .ne (.str s) (.str t) = some (!decide (s = t)) := (cq_ne ((sh_str hs).shaped (by omega)) ((sh_str ht).shaped (by omega))).trans (congrArg (fun z => some !z) (eqv_strD s t))
def fok (n : Int) (ps : List (Int × Int)) (xs : List Int) (x : D) : Bool := match x with
  | .tuple [.str s, a] => inW n a && (decide (s = "lost") && (match a with
    | .int i => isLost ps xs i
    | _ => false))
  | .tuple [.str s, a, b] => inW n a && inW n b && (decide (s = "tied") && (match a, b with
    | .int i, .int j => decide ((i, j) ∈ ps) && (decide (i ∈ xs) && decide (j ∈ xs))
    | _, _ => false))
  | _ => false
theorem fok_not {n : Int} {ps : List (Int × Int)} {xs : List Int} {x : D} (h : isiD x .tuple = false) : fok n ps xs x = false := by cases x <;> first | rfl | cases h
theorem fok_len {n : Int} {ps : List (Int × Int)} {xs : List Int} {ys : List D} (h : ys.length ≠ 2) (h3 : ys.length ≠ 3) : fok n ps xs (.tuple ys) = false := by
  match ys, h, h3 with
  | [], _, _ => rfl
  | [a], _, _ => cases a <;> rfl
  | [a, b], h, _ => simp at h
  | [a, b, c], _, h => simp at h
  | a :: b :: c :: d :: l, _, _ => cases a <;> rfl
theorem fok_head {n : Int} {ps : List (Int × Int)} {xs : List Int} {y : D} {ys : List D} (h : isiD y .str = false) : fok n ps xs (.tuple (y :: ys)) = false := by
  cases y <;> first | rfl | cases h
theorem fok_rng {n : Int} {ps : List (Int × Int)} {xs : List Int} {y : D} {ys : List D} (h : ys.all (inW n) = false) : fok n ps xs (.tuple (y :: ys)) = false := by
  by_cases hs : isiD y .str = true
  · obtain ⟨s, rfl⟩ : ∃ s, y = .str s := by cases y <;> first | exact ⟨_, rfl⟩ | cases hs
    match ys, h with
    | [], h => rfl
    | [a], h =>
      have h : (inW n a && true) = false := h
      rw [Bool.and_true] at h
      show (inW n a && _) = false
      rw [h]; rfl
    | [a, b], h =>
      have h : (inW n a && (inW n b && true)) = false := h
      rw [Bool.and_true] at h
      show (inW n a && inW n b && _) = false
      rw [h]; rfl
    | a :: b :: c :: l, h => rfl
  · exact fok_head (by simpa using hs)
theorem inW_int {n : Int} {y : D} (h : inW n y = true) : ∃ i, y = .int i ∧ 0 ≤ i ∧ i < n := by
  cases y <;> first | cases h | skip
  rename_i i
  have h : (decide (0 ≤ i) && decide (i < n)) = true := h
  rw [Bool.and_eq_true, decide_eq_true_iff, decide_eq_true_iff] at h
  exact ⟨i, rfl, h⟩
theorem str_of {y : D} (h : isiD y .str = true) : ∃ s, y = .str s := by cases y <;> first | exact ⟨_, rfl⟩ | cases h
def FtOk (x : D) : Prop := ∀ ys, x = .tuple ys → ys.length ≤ 1000 ∧ ∀ s zs, ys = .str s :: zs → PyData.strOk s = true
abbrev S_p_why_not_good (g : Sem) : Prop := ∀ (n : Int) (ps : List (Int × Int)) (y x : D), IsWeb n ps → lenOk y → (∀ xs, y = .tuple (dI xs) → Rising n xs → FtOk x → g [.d (webD n ps), .d y, .d x] = .ret (.bool (fok n ps xs x)) false [.d (webD n ps), .d y, .d x]) ∧ (sgood n y = false → g [.d (webD n ps), .d y, .d x] = .exc 0 [])
theorem t_p_why_not_good {φ : Phi} {c1 c2 c3 : Nat} (h1 : S_p_check_some (φ c1)) (hw2 : S_p_is_whole (φ c2)) (h3 : S_p_is_lost (φ c3)) : S_p_why_not_good (fnV 4 3 (i_p_why_not_good c1 c2 c3) φ) := by
  intro n ps y x w hl
  have n1 := w.n1
  have n2 := w.n2
  refine ⟨fun xs e hr hx => ?_, fun hs => p_fnX rfl rfl ?_⟩
  · subst e
    refine p_fnE rfl rfl ?_
    (try simp only [List.map_cons, List.map_nil, List.replicate_succ, List.replicate_zero, List.cons_append, List.nil_append, Nat.reduceSub, Nat.reduceAdd])
    rcases not_tuple (x := x) with ⟨ys, rfl⟩ | hn
    · have hyl := (hx ys rfl).1
      ((repeat ((try conv => whnf); first | refine clp rfl rfl rfl ((h1 _ _ _ n1 n2 hl).1 (sgood_rising hr)) ?_ | refine jt_or2 ?_ | walk_at "ev")); (try conv => whnf))
      refine ⟨(fun h => by cases h), fun _ => ?_⟩
      have hlt : cpD .ninT (.int (ys.length : Int)) (.tuple [.int 2, .int 3]) = some (!decide ((ys.length : Int) ∈ [(2 : Int), 3])) := cp_ninTI _ [2, 3]
      ((repeat ((try conv => whnf); first | refine jt_or2 ?_ | refine po hlt ?_ | walk_at "ev")); (try conv => whnf))
      refine ⟨fun h => ?_, fun h => ?_⟩
      · have h : ¬ ((ys.length : Int) ∈ [(2 : Int), 3]) := by simpa using h
        rw [fok_len (fun e => h (by rw [e]; simp)) (fun e => h (by rw [e]; simp))]
        refine ifsT rfl ?_
        ((repeat walk_at "ev"); (try conv => whnf))
      · have h : (ys.length : Int) = 2 ∨ (ys.length : Int) = 3 := by
          simp at h
          omega
        match ys, h, hx, hyl with
        | [], h, _, _ => simp at h
        | y0 :: zs, h, hx, hyl =>
        ((repeat ((try conv => whnf); first | refine po (ix_hd _ _) ?_ | walk_at "ev")); (try conv => whnf))
        refine ifs (fun h2 => ?_) (fun h2 => ?_)
        · rw [fok_head (by simpa using h2)]
          ((repeat walk_at "ev"); (try conv => whnf))
        · obtain ⟨s, rfl⟩ := str_of (show isiD y0 .str = true by simpa using h2)
          have hsok := (hx _ rfl).2 s zs rfl
          have hdrop := sl_Td (.str s :: zs) (k := 1) (by omega)
          have hdrop : slD (some 1) none (.tuple (.str s :: zs)) = some (.tuple zs, false) := hdrop
          simp only [List.length_cons] at h hyl
          ((repeat ((try conv => whnf); first | refine po hdrop ?_ | walk_at "ev")); (try conv => whnf))
          refine coDn (g := fun y => .bool (inW n y)) rfl (line_le (by omega)) rfl (fun y hy => ?_) ?_
          · (conv => whnf)
            refine jv_and (p := whole y) (q := inW n y) ?_ (fun hw => ?_) ?_
            · ((repeat ((try conv => whnf); first | refine clp rfl rfl rfl (hw2 _) ?_ | walk_at "ev")); (try conv => whnf))
            · obtain ⟨i, rfl⟩ := whole_iff.mp hw
              ((repeat walk_at "ev"); (try conv => whnf))
            · have : (whole y && inW n y) = inW n y := by
                cases hw : whole y with
                | true => rfl
                | false => rw [inW_not hw]; rfl
              rw [this]
              ((repeat walk_at "ev"); (try conv => whnf))
          · ((repeat walk_at "ev"); (try conv => whnf))
            cases ha : zs.all (inW n) with
            | false =>
              rw [fok_rng ha]
              refine ifsT rfl ?_
              ((repeat walk_at "ev"); (try conv => whnf))
            | true =>
              refine ifsF rfl ?_
              match zs, h, ha with
              | [], h, _ => simp at h
              | [a], _, ha =>
                have ha : inW n a = true := by simpa using ha
                obtain ⟨i, rfl, i0, i1⟩ := inW_int ha
                have hv : fok n ps xs (.tuple [.str s, .int i]) = (decide (s = "lost") && isLost ps xs i) := by
                  show (inW n (.int i) && _) = _
                  rw [ha]; rfl
                rw [hv]
                ((repeat ((try conv => whnf); first | refine jt_and2 ?_ | refine po (ix_hd _ _) ?_ | refine po (cp_eqS hsok ok_tied) ?_ | walk_at "ev")); (try conv => whnf))
                refine ⟨fun _ => ?_, fun _ => ?_⟩
                all_goals
                  ((repeat walk_at "ev"); (try conv => whnf))
                  refine ifsF (by rfl) ?_
                  ((repeat ((try conv => whnf); first | refine jv_and2 ?_ | refine po (ix_hd _ _) ?_ | refine po (cp_eqS hsok ok_lost) ?_ | walk_at "ev")); (try conv => whnf))
                  refine ⟨_, _, rfl, fun h => ?_, fun h => ?_⟩
                  · rw [h]
                    ((repeat walk_at "ev"); (try conv => whnf))
                  · rw [h]
                    ((repeat ((try conv => whnf); first | refine clp rfl rfl rfl (h3 _ _ _ _ w i0 i1) ?_ | walk_at "ev")); (try conv => whnf))
              | [a, b], _, ha =>
                have ha : inW n a = true ∧ inW n b = true := by simpa using ha
                obtain ⟨i, rfl, i0, i1⟩ := inW_int ha.1
                obtain ⟨j, rfl, j0, j1⟩ := inW_int ha.2
                have hv : fok n ps xs (.tuple [.str s, .int i, .int j]) = (decide (s = "tied") && (decide ((i, j) ∈ ps) && (decide (i ∈ xs) && decide (j ∈ xs)))) := by
                  show (inW n (.int i) && inW n (.int j) && _) = _
                  rw [ha.1, ha.2]; rfl
                rw [hv]
                ((repeat ((try conv => whnf); first | refine jt_and2 ?_ | refine po (ix_hd _ _) ?_ | refine po (cp_eqS hsok ok_tied) ?_ | walk_at "ev")); (try conv => whnf))
                refine ⟨fun ht => ?_, fun ht => ?_⟩
                · refine ifsF (by rfl) ?_
                  rw [ht]
                  ((repeat ((try conv => whnf); first | refine jv_and2 ?_ | refine po (ix_hd _ _) ?_ | refine po (cp_eqS hsok ok_lost) ?_ | walk_at "ev")); (try conv => whnf))
                  refine ⟨_, _, rfl, fun h => ?_, fun h => ?_⟩
                  · ((repeat walk_at "ev"); (try conv => whnf))
                  · ((repeat ((try conv => whnf); first | refine jv_and2 ?_ | walk_at "ev")); (try conv => whnf))
                    refine ⟨_, _, rfl, fun h => ?_, fun h => ?_⟩
                    · ((repeat walk_at "ev"); (try conv => whnf))
                    · cases h
                · rw [ht]
                  ((repeat walk_at "ev"); (try conv => whnf))
                  refine ifsT (by rfl) ?_
                  ((repeat ((try conv => whnf); first | refine po hdrop ?_ | walk_at "ev")); (try conv => whnf))
              | a :: b :: c :: l, h, _ => simp at h; omega
    · rw [fok_not hn]
      ((repeat ((try conv => whnf); first | refine clp rfl rfl rfl ((h1 _ _ _ n1 n2 hl).1 (sgood_rising hr)) ?_ | refine jt_or2 ?_ | walk_at "ev")); (try conv => whnf))
      refine ⟨fun _ => ?_, fun h => by rw [hn] at h; cases h⟩
      refine ifsT rfl ?_
      ((repeat walk_at "ev"); (try conv => whnf))
  · (try simp only [List.map_cons, List.map_nil, List.replicate_succ, List.replicate_zero, List.cons_append, List.nil_append, Nat.reduceSub, Nat.reduceAdd])
    ((repeat ((try conv => whnf); first | refine clx rfl rfl ((h1 _ _ _ n1 n2 hl).2 hs) ?_ | walk_at "ev")); (try conv => whnf))
    exact ⟨_, rfl⟩
abbrev S_l_due_of (g : Sem) : Prop := ∀ (n : Int) (ps : List (Int × Int)) (xs : List Int) (x : D), IsWeb n ps → FtOk x → g [.d (webD n ps), .d (.tuple (dI xs)), .d x] = .ret (.bool (fok n ps xs x)) false [.d (webD n ps), .d (.tuple (dI xs)), .d x]
theorem t_l_due_of {φ : Phi} {c1 c2 : Nat} (hw2 : S_l_whole (φ c1)) (h3 : S_l_nexts (φ c2)) : S_l_due_of (fnV 5 3 (i_l_due_of c1 c2) φ) := by
  intro n ps xs x w hx
  have n1 := w.n1
  have n2 := w.n2
  have hps := w.len
  refine p_fnE rfl rfl ?_
  (try simp only [List.map_cons, List.map_nil, List.replicate_succ, List.replicate_zero, List.cons_append, List.nil_append, Nat.reduceSub, Nat.reduceAdd])
  rcases not_tuple (x := x) with ⟨ys, rfl⟩ | hn
  · have hyl := (hx ys rfl).1
    ((repeat ((try conv => whnf); first | refine jt_or2 ?_ | walk_at "ev")); (try conv => whnf))
    refine ⟨(fun h => by cases h), fun _ => ?_⟩
    ((repeat ((try conv => whnf); first | refine jt_or2 ?_ | walk_at "ev")); (try conv => whnf))
    refine ⟨fun h => ?_, fun h => ?_⟩
    · have h := of_decide_eq_true h
      rw [fok_len (by omega) (by omega)]
      refine ifsT rfl ?_
      ((repeat walk_at "ev"); (try conv => whnf))
    · have h := of_decide_eq_false h
      match ys, h, hx, hyl with
      | [], h, _, _ => simp at h
      | y0 :: zs, h, hx, hyl =>
      ((repeat ((try conv => whnf); first | refine po (ix_hd _ _) ?_ | walk_at "ev")); (try conv => whnf))
      refine ifs (fun h2 => ?_) (fun h2 => ?_)
      · rw [fok_head (by simpa using h2)]
        ((repeat walk_at "ev"); (try conv => whnf))
      · obtain ⟨s, rfl⟩ := str_of (show isiD y0 .str = true by simpa using h2)
        have hsok := (hx _ rfl).2 s zs rfl
        have hdrop := sl_Td (.str s :: zs) (k := 1) (by omega)
        have hdrop : slD (some 1) none (.tuple (.str s :: zs)) = some (.tuple zs, false) := hdrop
        simp only [List.length_cons] at h hyl
        ((repeat ((try conv => whnf); first | refine po hdrop ?_ | walk_at "ev")); (try conv => whnf))
        refine coDn (g := fun y => .bool (inW n y)) rfl (line_le (by omega)) rfl (fun y hy => ?_) ?_
        · (conv => whnf)
          refine jv_and (p := whole y) (q := inW n y) ?_ (fun hw => ?_) ?_
          · ((repeat ((try conv => whnf); first | refine clp rfl rfl rfl (hw2 _) ?_ | walk_at "ev")); (try conv => whnf))
          · obtain ⟨i, rfl⟩ := whole_iff.mp hw
            ((repeat walk_at "ev"); (try conv => whnf))
          · have : (whole y && inW n y) = inW n y := by
              cases hw : whole y with
              | true => rfl
              | false => rw [inW_not hw]; rfl
            rw [this]
            ((repeat walk_at "ev"); (try conv => whnf))
        · ((repeat walk_at "ev"); (try conv => whnf))
          cases ha : zs.all (inW n) with
          | false =>
            rw [fok_rng ha]
            refine ifsT rfl ?_
            ((repeat walk_at "ev"); (try conv => whnf))
          | true =>
            refine ifsF rfl ?_
            match zs, h, ha with
            | [], h, _ => simp at h
            | [a], _, ha =>
              have ha : inW n a = true := by simpa using ha
              obtain ⟨i, rfl, i0, i1⟩ := inW_int ha
              have hln := leads_len ps i
              have hv : fok n ps xs (.tuple [.str s, .int i]) = (decide (s = "lost") && (!decide (i ∈ xs) && !((leads ps i).any fun o => decide (o ∈ xs)))) := by
                show (inW n (.int i) && _) = _
                rw [ha]; rfl
              rw [hv]
              ((repeat ((try conv => whnf); first | refine jt_and2 ?_ | refine po (ix_hd _ _) ?_ | refine po (cp_eqS hsok ok_tied) ?_ | walk_at "ev")); (try conv => whnf))
              refine ⟨fun _ => ?_, fun _ => ?_⟩
              all_goals
                ((repeat walk_at "ev"); (try conv => whnf))
                refine ifsF (by rfl) ?_
                ((repeat ((try conv => whnf); first | refine jt_or2 ?_ | refine po (ix_hd _ _) ?_ | refine po (cp_neS hsok ok_lost) ?_ | walk_at "ev")); (try conv => whnf))
                refine ⟨fun h => ?_, fun h => ?_⟩
                · rw [show decide (s = "lost") = false by simpa using h]
                  refine ifsT rfl ?_
                  ((repeat walk_at "ev"); (try conv => whnf))
                · rw [show decide (s = "lost") = true by simpa using h]
                  ((repeat ((try conv => whnf); first | refine jt_or2 ?_ | walk_at "ev")); (try conv => whnf))
                  refine ⟨(fun h => by cases h), fun _ => ?_⟩
                  ((repeat walk_at "ev"); (try conv => whnf))
                  refine ifs (fun h => ?_) (fun h => ?_)
                  · rw [h]
                    ((repeat walk_at "ev"); (try conv => whnf))
                  · rw [h]
                    ((repeat ((try conv => whnf); first | refine clp rfl rfl rfl (h3 _ _ _ (by omega)) ?_ | walk_at "ev")); (try conv => whnf))
                    refine coI (p := fun o => decide (o ∈ xs)) (g := fun o => .int o) rfl (line_le (by omega)) rfl (fun x hx => ?_) (fun x hx hp => ?_) ?_
                    · ((repeat walk_at "ev"); (try conv => whnf))
                    · ((repeat walk_at "ev"); (try conv => whnf))
                    · rw [show ((leads ps i).filter fun o => decide (o ∈ xs)).map (fun o => PyData.int o) = dI ((leads ps i).filter fun o => decide (o ∈ xs)) from rfl]
                      ((repeat walk_at "ev"); (try conv => whnf))
                      refine fq_ret rfl ⟨?_, rfl, rfl⟩
                      rw [empty_filter]; rfl
            | [a, b], _, ha =>
              have ha : inW n a = true ∧ inW n b = true := by simpa using ha
              obtain ⟨i, rfl, i0, i1⟩ := inW_int ha.1
              obtain ⟨j, rfl, j0, j1⟩ := inW_int ha.2
              have hv : fok n ps xs (.tuple [.str s, .int i, .int j]) = (decide (s = "tied") && (decide ((i, j) ∈ ps) && (decide (i ∈ xs) && decide (j ∈ xs)))) := by
                show (inW n (.int i) && inW n (.int j) && _) = _
                rw [ha.1, ha.2]; rfl
              rw [hv]
              ((repeat ((try conv => whnf); first | refine jt_and2 ?_ | refine po (ix_hd _ _) ?_ | refine po (cp_eqS hsok ok_tied) ?_ | walk_at "ev")); (try conv => whnf))
              refine ⟨fun ht => ?_, fun ht => ?_⟩
              · refine ifsF (by rfl) ?_
                rw [ht]
                ((repeat ((try conv => whnf); first | refine jt_or2 ?_ | refine po (ix_hd _ _) ?_ | refine po (cp_neS hsok ok_lost) ?_ | walk_at "ev")); (try conv => whnf))
                refine ⟨fun h => ?_, fun h => ?_⟩
                · refine ifsT rfl ?_
                  ((repeat walk_at "ev"); (try conv => whnf))
                · ((repeat ((try conv => whnf); first | refine jt_or2 ?_ | walk_at "ev")); (try conv => whnf))
                  refine ⟨fun _ => ?_, (fun h => by cases h)⟩
                  refine ifsT rfl ?_
                  ((repeat walk_at "ev"); (try conv => whnf))
              · rw [ht]
                ((repeat walk_at "ev"); (try conv => whnf))
                refine ifsT (by rfl) ?_
                ((repeat walk_at "ev"); (try conv => whnf))
            | a :: b :: c :: l, h, ha =>
              rw [fok_len (by simp) (by simp)]
              ((repeat ((try conv => whnf); first | refine jt_and2 ?_ | refine po (ix_hd _ _) ?_ | refine po (cp_eqS hsok ok_tied) ?_ | walk_at "ev")); (try conv => whnf))
              refine ⟨fun _ => ?_, fun _ => ?_⟩
              all_goals
                ((repeat walk_at "ev"); (try conv => whnf))
                refine ifsF (by first | rfl | (simp; omega)) ?_
                ((repeat ((try conv => whnf); first | refine jt_or2 ?_ | refine po (ix_hd _ _) ?_ | refine po (cp_neS hsok ok_lost) ?_ | walk_at "ev")); (try conv => whnf))
                refine ⟨fun h => ?_, fun h => ?_⟩
                · refine ifsT rfl ?_
                  ((repeat walk_at "ev"); (try conv => whnf))
                · ((repeat ((try conv => whnf); first | refine jt_or2 ?_ | walk_at "ev")); (try conv => whnf))
                  refine ⟨fun _ => ?_, fun h => ?_⟩
                  · refine ifsT rfl ?_
                    ((repeat walk_at "ev"); (try conv => whnf))
                  · simp at h; omega
  · rw [fok_not hn]
    ((repeat ((try conv => whnf); first | refine jt_or2 ?_ | walk_at "ev")); (try conv => whnf))
    refine ⟨fun _ => ?_, fun h => by rw [hn] at h; cases h⟩
    refine ifsT rfl ?_
    ((repeat walk_at "ev"); (try conv => whnf))
abbrev S_l_refused_2 (g : Sem) : Prop := ∀ (n : Int) (ps : List (Int × Int)) (x : D), IsWeb n ps → lenOk x → sgood n x = false → g [.d (webD n ps), .d x] = .ret (.bool true) false [.d (webD n ps), .d x]
theorem t_l_refused_2 {φ : Phi} {c1 c2 : Nat} (h1 : S_p_why_not_good (φ c1)) : S_l_refused_2 (fnV 3 2 (i_l_refused_2 c1 c2) φ) := by
  intro n ps x w hl hs
  refine p_fnE rfl rfl ?_
  (try simp only [List.map_cons, List.map_nil, List.replicate_succ, List.replicate_zero, List.cons_append, List.nil_append, Nat.reduceSub, Nat.reduceAdd])
  (conv => whnf)
  refine ptry ?_
  ((repeat ((try conv => whnf); first | refine clx rfl rfl ((h1 _ _ _ _ w hl).2 hs) ?_ | walk_at "ev")); (try conv => whnf))
  refine TQ.val (.bool true) (show 2 < 3 by decide) (by kernel_rfl) ?_
  exact fq_ret rfl ⟨rfl, rfl, rfl⟩
end Ev
/-! law k11. -/
namespace Ev
open PySem
local macro_rules | `(tactic| walk_at "ev") => `(tactic| ((try conv => whnf); (first | (guard_target =~ Po 0 _ _; refine po (by first | rfl | exact o2_mod _ _ (by omega) | exact o2_fdiv _ _ (by omega) (by omega) | exact o2_mulS (by omega) | exact o2_mulL1 (by omega) (by omega) | exact o2_mulT1 (by omega) (by omega) | exact o2_addL _ _ (by simp only [dI_len, dP_len, dB_len, dOB_len, dO_len, dT_len, List.length_append, List.length_cons, List.length_nil, List.length_map, List.length_replicate, List.length_reverse, List.length_take, List.length_drop]; omega) | exact o2_addT _ _ (by simp only [dI_len, dP_len, dB_len, dOB_len, dO_len, dT_len, List.length_append, List.length_cons, List.length_nil, List.length_map, List.length_replicate, List.length_reverse, List.length_take, List.length_drop]; omega) | exact o2_pow _ _ (by omega) (by omega) (by omega)) ?_) | (guard_target =~ Po 2 _ _; refine po (by with_reducible first | exact cp_eqLN _ | exact cp_neLN _ | exact cp_eqTN _ | exact cp_neTN _ | exact cp_eqI _ _ | exact cp_neI _ _ | exact cp_ltI _ _ | exact cp_leI _ _ | exact cp_gtI _ _ | exact cp_geI _ _ | exact cp_eqB _ _ | exact cp_neB _ _ | exact cp_inTI _ _ | exact cp_ninTI _ _ | exact cp_inLI _ _ | exact cp_ninLI _ _ | exact cp_inTP _ _ _ | exact cp_ninTP _ _ _ | exact cp_inLP _ _ _ | exact cp_inLB _ _ | exact cp_ninLB _ _ | exact cp_inTB _ _ | exact cp_eqTI _ _ | exact cp_neTI _ _ | exact cp_eqL _ _ | exact cp_neL _ _ | exact cp_eqLO _ _ | exact cp_eqTO _ _ | exact cp_neTO _ _ | exact cp_neLOB _ _ | exact cp_neLT _ _ | exact cp_inLOBb _ _ | exact cp_inLOBn _ | exact cp_ninLOBn _ | exact cp_inLOi _ _ | exact cp_inLOn _ | exact cp_ninLOn _ | exact cp_isNO _ | exact cp_notNO _ | exact cp_isNOB _ | exact cp_notNOB _ | rfl) ?_) | (guard_target =~ Po 13 _ _; refine po (by first | with_reducible rfl | rfl | exact bq_all _ | exact bq_any _ | exact bq_all' _ _ | exact bq_any' _ _ | exact bi_sortI _ | exact bi_sortP _) ?_) | (guard_target =~ Po 6 _ _; refine po (by first | exact mmd_append (by simp only [dI_len, dP_len, dB_len, dOB_len, dO_len, dT_len, List.length_append, List.length_cons, List.length_nil, List.length_map, List.length_replicate, List.length_reverse, List.length_take, List.length_drop]; omega) | exact mmd_extend (by simp only [dI_len, dP_len, dB_len, dOB_len, dO_len, dT_len, List.length_append, List.length_cons, List.length_nil, List.length_map, List.length_replicate, List.length_reverse, List.length_take, List.length_drop]; omega) | rfl) ?_) | (guard_target =~ Po 10 _ _; refine po (by first | exact sl_Tk _ (by omega) | exact sl_Lk _ (by omega) | exact sl_Td _ (by omega) | exact sl_Ld _ (by omega)) ?_) | (guard_target =~ Po 20 _ _; refine po (by first | rfl | exact ixN_ok (by omega) (by simp only [dI_len, dP_len, dB_len, dOB_len, dO_len, dT_len, List.length_append, List.length_cons, List.length_nil, List.length_map, List.length_replicate, List.length_reverse, List.length_take, List.length_drop]; omega)) ?_) | refine po rfl ?_ | apply jt_or | apply jt_and | refine fun (hp : (_ : Bool) = false) => ?_ | refine fun (hp : (_ : Bool) = true) => ?_ | exact And.intro rfl rfl | apply jv_or | apply jv_and | refine ran1 (by omega) ?_ | refine ran2 (by omega) (by omega) ?_ | refine Nx.ret ?_ | exact fq_ret rfl ⟨rfl, rfl, rfl⟩ | exact fq_next rfl ⟨rfl, rfl, rfl⟩ | refine And.intro rfl ?_ | apply jv_chain)))

def AllF (ds : List D) : Prop := ∀ x ∈ ds, FtOk x
theorem AllF.nil : AllF [] := fun x h => by cases h
theorem AllF.cons {x : D} {ds : List D} (h : FtOk x) (t : AllF ds) : AllF (x :: ds) := fun y hy => by
  rcases List.mem_cons.mp hy with rfl | hy
  · exact h
  · exact t y hy
theorem AllF.app {a b : List D} (h : AllF a) (t : AllF b) : AllF (a ++ b) := fun y hy => by
  rcases List.mem_append.mp hy with hy | hy
  · exact h y hy
  · exact t y hy
theorem ok_Tied : PyData.strOk "Tied" = true := by decide +kernel
theorem FtOk.oth {x : D} (h : isiD x .tuple = false) : FtOk x := fun ys e => by subst e; cases h
theorem FtOk.str {s : Str} {ys : List D} (h : PyData.strOk s = true) (hl : ys.length ≤ 900) : FtOk (.tuple (.str s :: ys)) := fun zs e => by
  cases e
  refine ⟨by rw [List.length_cons]; omega, fun t ws e => ?_⟩
  cases e
  exact h
theorem FtOk.hd {y : D} {ys : List D} (h : isiD y .str = false) (hl : ys.length ≤ 900) : FtOk (.tuple (y :: ys)) := fun zs e => by
  cases e
  refine ⟨by rw [List.length_cons]; omega, fun t ws e => ?_⟩
  cases e
  cases h
theorem FtOk.nil : FtOk (.tuple []) := fun zs e => by
  cases e
  exact ⟨by simp, fun t ws e => by cases e⟩
abbrev S_l_things_of (g : Sem) : Prop := ∀ (p : Int × Int × Int) (n : Int) (ps : List (Int × Int)), IsWeb n ps → n ≤ 8 → ∃ ds p', AllF ds ∧ ds.length ≤ 1000 ∧ g [.own (Pt p) false, .d (webD n ps)] = .ret (.list ds) true [.own (Pt p') false, .d (webD n ps)]
theorem t_l_things_of {φ : Phi} {c1 : Nat} (h1 : S_l_draw (φ c1)) : S_l_things_of (fnV 5 2 (i_l_things_of c1) φ) := by
  intro p n ps w hn
  have n1 := w.n1
  have key : ∃ d fr os, fnV 5 2 (i_l_things_of c1) φ [.own (Pt p) false, .d (webD n ps)] = .ret d fr os ∧ ∃ ds p', AllF ds ∧ ds.length ≤ 1000 ∧ d = .list ds ∧ fr = true ∧ os = [.own (Pt p') false, .d (webD n ps)] := by
    refine p_fn rfl rfl ?_
    (try simp only [List.map_cons, List.map_nil, List.replicate_succ, List.replicate_zero, List.cons_append, List.nil_append, Nat.reduceSub, Nat.reduceAdd])
    ((repeat walk_at "ev"); (try conv => whnf))
    refine pfor (cc := PyData.int) rfl (fun done rest s => ∃ ds z3, s = [some (.own (Pt p) false), some (.d (webD n ps)), some (.own (.lst ds) true), z3, none] ∧ AllF ds ∧ (ds.length : Int) ≤ done.length * 9) ⟨[], none, rfl, AllF.nil, by simp⟩ ?_ ?_
    · rintro done x rest s hd ⟨ds, z3, rfl, hds, hdl⟩
      have hl := lt_of_split hd
      refine ⟨_, rfl, ?_⟩
      ((repeat ((try conv => whnf); first | refine po (mmd_append (by omega)) ?_ | refine ran1 (by omega) ?_ | walk_at "ev")); (try conv => whnf))
      refine coIn (g := fun b => .tuple [.str "tied", .int x, .int b]) rfl (line_le (by rw [irange_len]; omega)) rfl (fun o ho => ?_) ?_
      · ((repeat walk_at "ev"); (try conv => whnf))
      · ((repeat ((try conv => whnf); first | refine po (mmd_extend (by simp only [List.length_append, List.length_map, irange_len, List.length_cons, List.length_nil]; omega)) ?_ | walk_at "ev")); (try conv => whnf))
        refine Nx.next ⟨_, _, rfl, (hds.app (AllF.cons (FtOk.str ok_lost (by simp)) AllF.nil)).app (fun y hy => ?_), ?_⟩
        · obtain ⟨b, _, rfl⟩ := List.mem_map.mp hy
          exact FtOk.str ok_tied (by simp)
        · simp only [List.length_append, List.length_map, irange_len, List.length_cons, List.length_nil]
          omega
    · rintro s ⟨ds, z3, rfl, hds, hdl⟩
      rw [irange_len] at hdl
      ((repeat walk_at "ev"); (try conv => whnf))
      refine dr h1 rfl (by omega) (by omega) (fun u p1 u0 u1 => ?_)
      ((repeat walk_at "ev"); (try conv => whnf))
      refine dr h1 rfl (by omega) (by omega) (fun v p2 v0 v1 => ?_)
      ((repeat ((try conv => whnf); first | refine po (o2_addL _ _ (by simp only [List.length_append, List.length_cons, List.length_nil]; omega)) ?_ | walk_at "ev")); (try conv => whnf))
      refine fq_ret rfl ⟨_, _, (((hds.app ?_).app ?_).app ?_).app ?_, ?_, rfl, rfl, rfl⟩
      · repeat (first | exact AllF.nil | (refine AllF.cons (by first | exact FtOk.oth rfl | exact FtOk.str ok_lost (by simp) | exact FtOk.str ok_tied (by simp) | exact FtOk.str ok_Tied (by simp) | exact FtOk.hd rfl (by simp) | exact FtOk.nil) ?_))
      · repeat (first | exact AllF.nil | (refine AllF.cons (by first | exact FtOk.oth rfl | exact FtOk.str ok_lost (by simp) | exact FtOk.str ok_tied (by simp) | exact FtOk.str ok_Tied (by simp) | exact FtOk.hd rfl (by simp) | exact FtOk.nil) ?_))
      · repeat (first | exact AllF.nil | (refine AllF.cons (by first | exact FtOk.oth rfl | exact FtOk.str ok_lost (by simp) | exact FtOk.str ok_tied (by simp) | exact FtOk.str ok_Tied (by simp) | exact FtOk.hd rfl (by simp) | exact FtOk.nil) ?_))
      · repeat (first | exact AllF.nil | (refine AllF.cons (by first | exact FtOk.oth rfl | exact FtOk.str ok_lost (by simp) | exact FtOk.str ok_tied (by simp) | exact FtOk.str ok_Tied (by simp) | exact FtOk.hd rfl (by simp) | exact FtOk.nil) ?_))
      · simp only [List.length_append, List.length_cons, List.length_nil]
        omega
  obtain ⟨d, fr, os, e, ds, p', h1, h2, hd, hf, ho⟩ := key
  exact ⟨ds, p', h1, h2, by rw [e, hd, hf, ho]⟩
theorem t_law_k11 {φ : Phi} {c1 c2 c3 c4 c5 c6 c7 c8 c9 c10 : Nat} (h1 : S_l_cell_at (φ c1)) (h2 : S_l_pen_of (φ c2)) (h3 : MakesWeb (φ c3)) (h4 : S_l_things_of (φ c4)) (h5 : S_l_free (φ c5)) (h6 : S_l_some (φ c6)) (h7 : S_l_due_of (φ c7)) (h8 : S_p_why_not_good (φ c8)) (h9 : S_l_refused_2 (φ c9)) (h10 : S_l_odd_some (φ c10)) : LawTrue 63 (fnV 9 1 (i_law_k11 c1 c2 c3 c4 c5 c6 c7 c8 c9 c10) φ) := by
  refine lawTrue fun ns hns => p_fn rfl rfl ?_
  (try simp only [List.map_cons, List.map_nil, List.replicate_succ, List.replicate_zero, List.cons_append, List.nil_append, Nat.reduceSub, Nat.reduceAdd])
  obtain ⟨c, hc⟩ := h1 ns 0
  obtain ⟨m, hm, hml⟩ := cells_sl ns (some 1) (some 8)
  ((repeat ((try conv => whnf); first | refine clp rfl rfl rfl hc ?_ | refine po hm ?_ | walk_at "ev")); (try conv => whnf))
  refine pforS (fun x => ∃ i, x = .int i) (fun s => ∃ z1 z2 z3 z4 z5 z6 z7 z8, s = [some (.ro (.list (dI ns))), z1, z2, z3, z4, z5, z6, z7, z8]) cells_all ⟨_, _, _, _, _, _, _, _, rfl⟩ ?_ ?_
  · rintro x s ⟨i, rfl⟩ ⟨z1, z2, z3, z4, z5, z6, z7, z8, rfl⟩
    refine ⟨_, rfl, ?_⟩
    obtain ⟨a, b, d, hp⟩ := h2 i
    obtain ⟨n, ps, p1, w, hn, hw⟩ := h3 (a, b, d) 8 (by omega) (by omega)
    have n1 := w.n1
    have n2 := w.n2
    obtain ⟨ds, p2, hds, hdl, ht⟩ := h4 p1 n ps w hn
    obtain ⟨xs, p3, hxs, hs⟩ := h6 p2 n (by omega) (by omega)
    obtain ⟨ys, p4, hys, hf⟩ := h5 p3 n ps w
    ((repeat ((try conv => whnf); first | refine clp rfl rfl rfl hp ?_ | refine clo hw rfl rfl rfl rfl ?_ | refine clo ht rfl rfl rfl rfl ?_ | refine clo hs rfl rfl rfl rfl ?_ | refine clo hf rfl rfl rfl rfl ?_ | walk_at "ev")); (try conv => whnf))
    refine pforS (fun x => ∃ xs, x = .tuple (dI xs) ∧ Rising n xs) (fun s => ∃ p z5 z6 z7 z8, s = [some (.ro (.list (dI ns))), some (.d (.int i)), some (.own (Pt p) true), some (.d (webD n ps)), some (.d (.list ds)), z5, z6, z7, z8]) (fun x hx => ?_) ⟨_, _, _, _, _, rfl⟩ ?_ ?_
    · simp only [List.mem_cons, List.not_mem_nil, or_false] at hx
      rcases hx with rfl | rfl | rfl
      · exact ⟨_, rfl, (irange_rising n).sub hxs⟩
      · exact ⟨_, rfl, hys⟩
      · exact ⟨[], rfl, Rising.nil _⟩
    · rintro x s ⟨zs, rfl, hz⟩ ⟨p, z5, z6, z7, z8, rfl⟩
      refine ⟨_, rfl, ?_⟩
      ((repeat walk_at "ev"); (try conv => whnf))
      refine pforS FtOk (fun s => ∃ z6 z7 z8, s = [some (.ro (.list (dI ns))), some (.d (.int i)), some (.own (Pt p) true), some (.d (webD n ps)), some (.d (.list ds)), some (.d (.tuple (dI zs))), z6, z7, z8]) hds ⟨_, _, _, rfl⟩ ?_ ?_
      · rintro x s hx ⟨z6, z7, z8, rfl⟩
        refine ⟨_, rfl, ?_⟩
        ((repeat ((try conv => whnf); first | refine clp rfl rfl rfl (h7 _ _ _ _ w hx) ?_ | refine clp rfl rfl rfl ((h8 _ _ _ _ w (rising_lenOk hz n2)).1 _ rfl hz hx) ?_ | walk_at "ev")); (try conv => whnf))
        refine ifsF (by simp [isiD]) ?_
        ((repeat walk_at "ev"); (try conv => whnf))
        exact Nx.next ⟨_, _, _, rfl⟩
      · rintro s ⟨z6, z7, z8, rfl⟩
        obtain ⟨o, p5, ho, hol, hoo⟩ := h10 p n zs n1 n2 hz
        ((repeat ((try conv => whnf); first | refine clo hoo rfl rfl rfl rfl ?_ | refine clp rfl rfl rfl (h9 _ _ _ w hol ho) ?_ | walk_at "ev")); (try conv => whnf))
        refine ifsF rfl ?_
        ((repeat walk_at "ev"); (try conv => whnf))
        exact Nx.next ⟨_, _, _, _, _, rfl⟩
    · rintro s ⟨p, z5, z6, z7, z8, rfl⟩
      exact Nx.next ⟨_, _, _, _, _, _, _, _, rfl⟩
  · rintro s ⟨z1, z2, z3, z4, z5, z6, z7, z8, rfl⟩
    ((repeat walk_at "ev"); (try conv => whnf))
    exact fq_ret rfl ⟨rfl, rfl⟩
end Ev
namespace K11
open PySem PySem.Spec PyProof.Rows L2 Ev
abbrev Prg : Program := PySem.Challenge.pw_holdsets_k11_faults_by_anybody
def top (i : Nat) : Stmt := Prg.main.body.getD i (.Pass ⟨0, 0, 0, 0⟩)
def con : List (Str × PyData) := []
def exn : Exn := [(0, "NoPlace", []), (1, "NoHold", []), (2, "NoArrow", []), (3, "NoNumber", []), (4, "NoRow", []), (5, "NoWeb", ["number"]), (6, "Ringed", ["ring"]), (7, "NoText", ["row"]), (8, "TooGreat", ["many", "most"])]
def ir0 : Ss := i_p_is_whole 
def ph0 : Phi := phiL []
def g0 : Sem := fnV 1 1 ir0 ph0
theorem sc0 : FnScope ["thing"] ["thing"] (defScope (top 12)) := ⟨rfl, rfl, rfl, by decide +kernel, rfl, by decide +kernel, by decide +kernel⟩
theorem ck0 : chkSs ⟨["thing"], [], exn, con, (⟨[], []⟩ : Hot)⟩ ⟨defScope (top 12), defScope (top 12)⟩ ir0 (defBody (top 12)) = true := by decide +kernel
theorem s0 : S_p_is_whole g0 := t_p_is_whole (φ := ph0) 
def ir1 : Ss := i_p_check_place 0
def ph1 : Phi := phiL [g0]
def g1 : Sem := fnV 2 2 ir1 ph1
theorem sc1 : FnScope ["web", "place"] ["web", "place"] (defScope (top 13)) := ⟨rfl, rfl, rfl, by decide +kernel, rfl, by decide +kernel, by decide +kernel⟩
theorem ck1 : chkSs ⟨["web", "place"], ["is_whole"], exn, con, (⟨[], []⟩ : Hot)⟩ ⟨defScope (top 13), defScope (top 13)⟩ ir1 (defBody (top 13)) = true := by decide +kernel
theorem s1 : S_p_check_place g1 := t_p_check_place (φ := ph1) (c1 := 0) s0
def ir2 : Ss := i_p_leads_to 1
def ph2 : Phi := phiL [g0, g1]
def g2 : Sem := fnV 4 2 ir2 ph2
theorem sc2 : FnScope ["web", "place", "a", "b"] ["web", "place"] (defScope (top 14)) := ⟨rfl, rfl, rfl, by decide +kernel, rfl, by decide +kernel, by decide +kernel⟩
theorem ck2 : chkSs ⟨["web", "place", "a", "b"], ["is_whole", "check_place"], exn, con, (⟨[], []⟩ : Hot)⟩ ⟨defScope (top 14), defScope (top 14)⟩ ir2 (defBody (top 14)) = true := by decide +kernel
theorem s2 : S_p_leads_to g2 := t_p_leads_to (φ := ph2) (c1 := 1) s1
def ir3 : Ss := i_p_some_good 0
def ph3 : Phi := phiL [g0, g1, g2]
def g3 : Sem := fnV 3 2 ir3 ph3
theorem sc3 : FnScope ["web", "thing", "place"] ["web", "thing"] (defScope (top 16)) := ⟨rfl, rfl, rfl, by decide +kernel, rfl, by decide +kernel, by decide +kernel⟩
theorem ck3 : chkSs ⟨["web", "thing", "place"], ["is_whole", "check_place", "leads_to"], exn, con, (⟨[], []⟩ : Hot)⟩ ⟨defScope (top 16), defScope (top 16)⟩ ir3 (defBody (top 16)) = true := by decide +kernel
theorem s3 : S_p_some_good g3 := t_p_some_good (φ := ph3) (c1 := 0) s0
def ir4 : Ss := i_p_check_some 3
def ph4 : Phi := phiL [g0, g1, g2, g3]
def g4 : Sem := fnV 2 2 ir4 ph4
theorem sc4 : FnScope ["web", "thing"] ["web", "thing"] (defScope (top 17)) := ⟨rfl, rfl, rfl, by decide +kernel, rfl, by decide +kernel, by decide +kernel⟩
theorem ck4 : chkSs ⟨["web", "thing"], ["is_whole", "check_place", "leads_to", "some_good"], exn, con, (⟨[], []⟩ : Hot)⟩ ⟨defScope (top 17), defScope (top 17)⟩ ir4 (defBody (top 17)) = true := by decide +kernel
theorem s4 : S_p_check_some g4 := t_p_check_some (φ := ph4) (c1 := 3) s3
def ir5 : Ss := i_p_is_lost 2
def ph5 : Phi := phiL [g0, g1, g2, g3, g4]
def g5 : Sem := fnV 4 3 ir5 ph5
theorem sc5 : FnScope ["web", "places", "place", "other"] ["web", "places", "place"] (defScope (top 18)) := ⟨rfl, rfl, rfl, by decide +kernel, rfl, by decide +kernel, by decide +kernel⟩
theorem ck5 : chkSs ⟨["web", "places", "place", "other"], ["is_whole", "check_place", "leads_to", "some_good", "check_some"], exn, con, (⟨[], []⟩ : Hot)⟩ ⟨defScope (top 18), defScope (top 18)⟩ ir5 (defBody (top 18)) = true := by decide +kernel
theorem s5 : S_p_is_lost g5 := t_p_is_lost (φ := ph5) (c1 := 2) s2
def ir6 : Ss := i_p_why_not_good 4 0 5
def ph6 : Phi := phiL [g0, g1, g2, g3, g4, g5]
def g6 : Sem := fnV 4 3 ir6 ph6
theorem sc6 : FnScope ["web", "places", "thing", "place"] ["web", "places", "thing"] (defScope (top 19)) := ⟨rfl, rfl, rfl, by decide +kernel, rfl, by decide +kernel, by decide +kernel⟩
theorem ck6 : chkSs ⟨["web", "places", "thing", "place"], ["is_whole", "check_place", "leads_to", "some_good", "check_some", "is_lost"], exn, con, (⟨[], []⟩ : Hot)⟩ ⟨defScope (top 19), defScope (top 19)⟩ ir6 (defBody (top 19)) = true := by decide +kernel
theorem s6 : S_p_why_not_good g6 := t_p_why_not_good (φ := ph6) (c1 := 4) (c2 := 0) (c3 := 5) s4 s0 s5
def ir7 : Ss := i_l_cell_at 
def ph7 : Phi := phiL [g0, g1, g2, g3, g4, g5, g6]
def g7 : Sem := fnV 2 2 ir7 ph7
theorem sc7 : FnScope ["script", "k"] ["script", "k"] (defScope (top 21)) := ⟨rfl, rfl, rfl, by decide +kernel, rfl, by decide +kernel, by decide +kernel⟩
theorem ck7 : chkSs ⟨["script", "k"], ["is_whole", "check_place", "leads_to", "some_good", "check_some", "is_lost", "why_not_good"], exn, con, (⟨[], []⟩ : Hot)⟩ ⟨defScope (top 21), defScope (top 21)⟩ ir7 (defBody (top 21)) = true := by decide +kernel
theorem s7 : S_l_cell_at g7 := t_l_cell_at (φ := ph7) 
def ir8 : Ss := i_l_next 
def ph8 : Phi := phiL [g0, g1, g2, g3, g4, g5, g6, g7]
def g8 : Sem := fnV 1 1 ir8 ph8
theorem sc8 : FnScope ["seed"] ["seed"] (defScope (top 22)) := ⟨rfl, rfl, rfl, by decide +kernel, rfl, by decide +kernel, by decide +kernel⟩
theorem ck8 : chkSs ⟨["seed"], ["is_whole", "check_place", "leads_to", "some_good", "check_some", "is_lost", "why_not_good", "_law_cell_at"], exn, con, (⟨[], []⟩ : Hot)⟩ ⟨defScope (top 22), defScope (top 22)⟩ ir8 (defBody (top 22)) = true := by decide +kernel
theorem s8 : S_l_next g8 := t_l_next (φ := ph8) 
def ir9 : Ss := i_l_pen_of 
def ph9 : Phi := phiL [g0, g1, g2, g3, g4, g5, g6, g7, g8]
def g9 : Sem := fnV 2 1 ir9 ph9
theorem sc9 : FnScope ["cell", "left"] ["cell"] (defScope (top 23)) := ⟨rfl, rfl, rfl, by decide +kernel, rfl, by decide +kernel, by decide +kernel⟩
theorem ck9 : chkSs ⟨["cell", "left"], ["is_whole", "check_place", "leads_to", "some_good", "check_some", "is_lost", "why_not_good", "_law_cell_at", "_law_next"], exn, con, (⟨[], []⟩ : Hot)⟩ ⟨defScope (top 23), defScope (top 23)⟩ ir9 (defBody (top 23)) = true := by decide +kernel
theorem s9 : S_l_pen_of g9 := t_l_pen_of (φ := ph9) 
def ir10 : Ss := i_l_draw 8
def ph10 : Phi := phiL [g0, g1, g2, g3, g4, g5, g6, g7, g8, g9]
def g10 : Sem := fnV 3 2 ir10 ph10
theorem sc10 : FnScope ["pen", "many", "found"] ["pen", "many"] (defScope (top 24)) := ⟨rfl, rfl, rfl, by decide +kernel, rfl, by decide +kernel, by decide +kernel⟩
theorem ck10 : chkSs ⟨["pen", "many", "found"], ["is_whole", "check_place", "leads_to", "some_good", "check_some", "is_lost", "why_not_good", "_law_cell_at", "_law_next", "_law_pen_of"], exn, con, (⟨[], []⟩ : Hot)⟩ ⟨defScope (top 24), defScope (top 24)⟩ ir10 (defBody (top 24)) = true := by decide +kernel
theorem s10 : S_l_draw g10 := t_l_draw (φ := ph10) (c1 := 8) s8
theorem kw11 : chkWhole ⟨defScope (top 25), defScope (top 25)⟩ ["found"] (defBody (top 25)) = true := by decide +kernel
def ir11 : Ss := i_l_whole 
def ph11 : Phi := phiL [g0, g1, g2, g3, g4, g5, g6, g7, g8, g9, g10]
def g11 : Sem := fnV 1 1 ir11 ph11
theorem sc11 : FnScope ["found"] ["found"] (defScope (top 25)) := ⟨rfl, rfl, rfl, by decide +kernel, rfl, by decide +kernel, by decide +kernel⟩
theorem ck11 : chkSs ⟨["found"], ["is_whole", "check_place", "leads_to", "some_good", "check_some", "is_lost", "why_not_good", "_law_cell_at", "_law_next", "_law_pen_of", "_law_draw"], exn, con, (⟨[], []⟩ : Hot)⟩ ⟨defScope (top 25), defScope (top 25)⟩ ir11 (defBody (top 25)) = true := by decide +kernel
theorem s11 : S_l_whole g11 := t_l_whole (φ := ph11) 
def g12 : Sem := fun _ => .stuck
theorem sc12 : FnScope ["e", "marks", "words"] ["e"] (defScope (top 26)) := ⟨rfl, rfl, rfl, by decide +kernel, rfl, by decide +kernel, by decide +kernel⟩
theorem kk12 : chkKind ⟨defScope (top 26), defScope (top 26)⟩ ["e", "marks", "words"] ["NoPlace", "NoHold", "NoArrow", "NoNumber", "NoRow", "NoWeb", "Ringed", "NoText", "TooGreat"] ["place", "hold", "arrow", "number", "row", "web", "ringed", "text", "great"] (defBody (top 26)) = true := by decide +kernel
def ir13 : Ss := i_l_web_by_2 10
def ph13 : Phi := phiL [g0, g1, g2, g3, g4, g5, g6, g7, g8, g9, g10, g11, g12]
def g13 : Sem := fnV 9 2 ir13 ph13
theorem sc13 : FnScope ["pen", "most", "many", "way", "arrows", "turn", "place", "a", "b"] ["pen", "most"] (defScope (top 27)) := ⟨rfl, rfl, rfl, by decide +kernel, rfl, by decide +kernel, by decide +kernel⟩
theorem ck13 : chkSs ⟨["pen", "most", "many", "way", "arrows", "turn", "place", "a", "b"], ["is_whole", "check_place", "leads_to", "some_good", "check_some", "is_lost", "why_not_good", "_law_cell_at", "_law_next", "_law_pen_of", "_law_draw", "_law_whole", "_law_kind_of"], exn, con, (⟨[(12, ["place", "hold", "arrow", "number", "row", "web", "ringed", "text", "great"])], [11]⟩ : Hot)⟩ ⟨defScope (top 27), defScope (top 27)⟩ ir13 (defBody (top 27)) = true := by decide +kernel
theorem s13 : S_l_web_by_2 g13 := t_l_web_by_2 (φ := ph13) (c1 := 10) s10
def ir14 : Ss := i_l_nexts 
def ph14 : Phi := phiL [g0, g1, g2, g3, g4, g5, g6, g7, g8, g9, g10, g11, g12, g13]
def g14 : Sem := fnV 4 2 ir14 ph14
theorem sc14 : FnScope ["web", "place", "a", "b"] ["web", "place"] (defScope (top 28)) := ⟨rfl, rfl, rfl, by decide +kernel, rfl, by decide +kernel, by decide +kernel⟩
theorem ck14 : chkSs ⟨["web", "place", "a", "b"], ["is_whole", "check_place", "leads_to", "some_good", "check_some", "is_lost", "why_not_good", "_law_cell_at", "_law_next", "_law_pen_of", "_law_draw", "_law_whole", "_law_kind_of", "_law_web_by"], exn, con, (⟨[(12, ["place", "hold", "arrow", "number", "row", "web", "ringed", "text", "great"])], [11]⟩ : Hot)⟩ ⟨defScope (top 28), defScope (top 28)⟩ ir14 (defBody (top 28)) = true := by decide +kernel
theorem s14 : S_l_nexts g14 := t_l_nexts (φ := ph14) 
def ir15 : Ss := i_l_some 10
def ph15 : Phi := phiL [g0, g1, g2, g3, g4, g5, g6, g7, g8, g9, g10, g11, g12, g13, g14]
def g15 : Sem := fnV 4 2 ir15 ph15
theorem sc15 : FnScope ["pen", "many", "share", "place"] ["pen", "many"] (defScope (top 29)) := ⟨rfl, rfl, rfl, by decide +kernel, rfl, by decide +kernel, by decide +kernel⟩
theorem ck15 : chkSs ⟨["pen", "many", "share", "place"], ["is_whole", "check_place", "leads_to", "some_good", "check_some", "is_lost", "why_not_good", "_law_cell_at", "_law_next", "_law_pen_of", "_law_draw", "_law_whole", "_law_kind_of", "_law_web_by", "_law_nexts"], exn, con, (⟨[(12, ["place", "hold", "arrow", "number", "row", "web", "ringed", "text", "great"])], [11]⟩ : Hot)⟩ ⟨defScope (top 29), defScope (top 29)⟩ ir15 (defBody (top 29)) = true := by decide +kernel
theorem s15 : S_l_some g15 := t_l_some (φ := ph15) (c1 := 10) s10
def ir16 : Ss := i_l_free 10
def ph16 : Phi := phiL [g0, g1, g2, g3, g4, g5, g6, g7, g8, g9, g10, g11, g12, g13, g14, g15]
def g16 : Sem := fnV 6 2 ir16 ph16
theorem sc16 : FnScope ["pen", "web", "left", "found", "place", "one"] ["pen", "web"] (defScope (top 30)) := ⟨rfl, rfl, rfl, by decide +kernel, rfl, by decide +kernel, by decide +kernel⟩
theorem ck16 : chkSs ⟨["pen", "web", "left", "found", "place", "one"], ["is_whole", "check_place", "leads_to", "some_good", "check_some", "is_lost", "why_not_good", "_law_cell_at", "_law_next", "_law_pen_of", "_law_draw", "_law_whole", "_law_kind_of", "_law_web_by", "_law_nexts", "_law_some"], exn, con, (⟨[(12, ["place", "hold", "arrow", "number", "row", "web", "ringed", "text", "great"])], [11]⟩ : Hot)⟩ ⟨defScope (top 30), defScope (top 30)⟩ ir16 (defBody (top 30)) = true := by decide +kernel
theorem s16 : S_l_free g16 := t_l_free (φ := ph16) (c1 := 10) s10
def ir17 : Ss := i_l_odd_some 10
def ph17 : Phi := phiL [g0, g1, g2, g3, g4, g5, g6, g7, g8, g9, g10, g11, g12, g13, g14, g15, g16]
def g17 : Sem := fnV 4 3 ir17 ph17
theorem sc17 : FnScope ["pen", "many", "places", "odd"] ["pen", "many", "places"] (defScope (top 31)) := ⟨rfl, rfl, rfl, by decide +kernel, rfl, by decide +kernel, by decide +kernel⟩
theorem ck17 : chkSs ⟨["pen", "many", "places", "odd"], ["is_whole", "check_place", "leads_to", "some_good", "check_some", "is_lost", "why_not_good", "_law_cell_at", "_law_next", "_law_pen_of", "_law_draw", "_law_whole", "_law_kind_of", "_law_web_by", "_law_nexts", "_law_some", "_law_free"], exn, con, (⟨[(12, ["place", "hold", "arrow", "number", "row", "web", "ringed", "text", "great"])], [11]⟩ : Hot)⟩ ⟨defScope (top 31), defScope (top 31)⟩ ir17 (defBody (top 31)) = true := by decide +kernel
theorem s17 : S_l_odd_some g17 := t_l_odd_some (φ := ph17) (c1 := 10) s10
def ir18 : Ss := i_l_due_of 11 14
def ph18 : Phi := phiL [g0, g1, g2, g3, g4, g5, g6, g7, g8, g9, g10, g11, g12, g13, g14, g15, g16, g17]
def g18 : Sem := fnV 5 3 ir18 ph18
theorem sc18 : FnScope ["web", "places", "thing", "b", "one"] ["web", "places", "thing"] (defScope (top 32)) := ⟨rfl, rfl, rfl, by decide +kernel, rfl, by decide +kernel, by decide +kernel⟩
theorem ck18 : chkSs ⟨["web", "places", "thing", "b", "one"], ["is_whole", "check_place", "leads_to", "some_good", "check_some", "is_lost", "why_not_good", "_law_cell_at", "_law_next", "_law_pen_of", "_law_draw", "_law_whole", "_law_kind_of", "_law_web_by", "_law_nexts", "_law_some", "_law_free", "_law_odd_some"], exn, con, (⟨[(12, ["place", "hold", "arrow", "number", "row", "web", "ringed", "text", "great"])], [11]⟩ : Hot)⟩ ⟨defScope (top 32), defScope (top 32)⟩ ir18 (defBody (top 32)) = true := by decide +kernel
theorem s18 : S_l_due_of g18 := t_l_due_of (φ := ph18) (c1 := 11) (c2 := 14) s11 s14
def ir19 : Ss := i_l_things_of 10
def ph19 : Phi := phiL [g0, g1, g2, g3, g4, g5, g6, g7, g8, g9, g10, g11, g12, g13, g14, g15, g16, g17, g18]
def g19 : Sem := fnV 5 2 ir19 ph19
theorem sc19 : FnScope ["pen", "web", "found", "a", "b"] ["pen", "web"] (defScope (top 33)) := ⟨rfl, rfl, rfl, by decide +kernel, rfl, by decide +kernel, by decide +kernel⟩
theorem ck19 : chkSs ⟨["pen", "web", "found", "a", "b"], ["is_whole", "check_place", "leads_to", "some_good", "check_some", "is_lost", "why_not_good", "_law_cell_at", "_law_next", "_law_pen_of", "_law_draw", "_law_whole", "_law_kind_of", "_law_web_by", "_law_nexts", "_law_some", "_law_free", "_law_odd_some", "_law_due_of"], exn, con, (⟨[(12, ["place", "hold", "arrow", "number", "row", "web", "ringed", "text", "great"])], [11]⟩ : Hot)⟩ ⟨defScope (top 33), defScope (top 33)⟩ ir19 (defBody (top 33)) = true := by decide +kernel
theorem s19 : S_l_things_of g19 := t_l_things_of (φ := ph19) (c1 := 10) s10
def ir20 : Ss := i_l_refused_2 6 12
def ph20 : Phi := phiL [g0, g1, g2, g3, g4, g5, g6, g7, g8, g9, g10, g11, g12, g13, g14, g15, g16, g17, g18, g19]
def g20 : Sem := fnV 3 2 ir20 ph20
theorem sc20 : FnScope ["web", "thing", "e"] ["web", "thing"] (defScope (top 34)) := ⟨rfl, rfl, rfl, by decide +kernel, rfl, by decide +kernel, by decide +kernel⟩
theorem ck20 : chkSs ⟨["web", "thing", "e"], ["is_whole", "check_place", "leads_to", "some_good", "check_some", "is_lost", "why_not_good", "_law_cell_at", "_law_next", "_law_pen_of", "_law_draw", "_law_whole", "_law_kind_of", "_law_web_by", "_law_nexts", "_law_some", "_law_free", "_law_odd_some", "_law_due_of", "_law_things_of"], exn, con, (⟨[(12, ["place", "hold", "arrow", "number", "row", "web", "ringed", "text", "great"])], [11]⟩ : Hot)⟩ ⟨defScope (top 34), defScope (top 34)⟩ ir20 (defBody (top 34)) = true := by decide +kernel
theorem s20 : S_l_refused_2 g20 := t_l_refused_2 (φ := ph20) (c1 := 6) (c2 := 12) s6
def ir21 : Ss := i_law_k11 7 9 13 19 16 15 18 6 20 17
def ph21 : Phi := phiL [g0, g1, g2, g3, g4, g5, g6, g7, g8, g9, g10, g11, g12, g13, g14, g15, g16, g17, g18, g19, g20]
def g21 : Sem := fnV 9 1 ir21 ph21
theorem sc21 : FnScope ["script", "cell", "pen", "web", "things", "places", "thing", "due", "found"] ["script"] (defScope (top 35)) := ⟨rfl, rfl, rfl, by decide +kernel, rfl, by decide +kernel, by decide +kernel⟩
theorem ck21 : chkSs ⟨["script", "cell", "pen", "web", "things", "places", "thing", "due", "found"], ["is_whole", "check_place", "leads_to", "some_good", "check_some", "is_lost", "why_not_good", "_law_cell_at", "_law_next", "_law_pen_of", "_law_draw", "_law_whole", "_law_kind_of", "_law_web_by", "_law_nexts", "_law_some", "_law_free", "_law_odd_some", "_law_due_of", "_law_things_of", "_law_refused"], exn, con, (⟨[(12, ["place", "hold", "arrow", "number", "row", "web", "ringed", "text", "great"])], [11]⟩ : Hot)⟩ ⟨defScope (top 35), defScope (top 35)⟩ ir21 (defBody (top 35)) = true := by decide +kernel
theorem s21 : LawTrue 63 g21 := t_law_k11 (φ := ph21) (c1 := 7) (c2 := 9) (c3 := 13) (c4 := 19) (c5 := 16) (c6 := 15) (c7 := 18) (c8 := 6) (c9 := 20) (c10 := 17) s7 s9 s13 s19 s16 s15 s18 s6 s20 s17
theorem si5 : FnScope ["self", "number"] ["self", "number"] (defScope (inClass (top 7) 0)) := ⟨rfl, rfl, rfl, by decide +kernel, rfl, by decide +kernel, by decide +kernel⟩
theorem ci5 : chkInit ⟨defScope (inClass (top 7) 0), defScope (inClass (top 7) 0)⟩ ["self", "number"] ["number"] (defBody (inClass (top 7) 0)) = true := by decide +kernel
def dI5 : He.DefD := ⟨("NoWeb", some "__init__"), "__init__", "NoWeb.__init__", defArgs (inClass (top 7) 0), defBody (inClass (top 7) 0), defScope (inClass (top 7) 0), [], []⟩
theorem si6 : FnScope ["self", "ring"] ["self", "ring"] (defScope (inClass (top 8) 0)) := ⟨rfl, rfl, rfl, by decide +kernel, rfl, by decide +kernel, by decide +kernel⟩
theorem ci6 : chkInit ⟨defScope (inClass (top 8) 0), defScope (inClass (top 8) 0)⟩ ["self", "ring"] ["ring"] (defBody (inClass (top 8) 0)) = true := by decide +kernel
def dI6 : He.DefD := ⟨("Ringed", some "__init__"), "__init__", "Ringed.__init__", defArgs (inClass (top 8) 0), defBody (inClass (top 8) 0), defScope (inClass (top 8) 0), [], []⟩
theorem si7 : FnScope ["self", "row"] ["self", "row"] (defScope (inClass (top 9) 0)) := ⟨rfl, rfl, rfl, by decide +kernel, rfl, by decide +kernel, by decide +kernel⟩
theorem ci7 : chkInit ⟨defScope (inClass (top 9) 0), defScope (inClass (top 9) 0)⟩ ["self", "row"] ["row"] (defBody (inClass (top 9) 0)) = true := by decide +kernel
def dI7 : He.DefD := ⟨("NoText", some "__init__"), "__init__", "NoText.__init__", defArgs (inClass (top 9) 0), defBody (inClass (top 9) 0), defScope (inClass (top 9) 0), [], []⟩
theorem si8 : FnScope ["self", "many", "most"] ["self", "many", "most"] (defScope (inClass (top 10) 0)) := ⟨rfl, rfl, rfl, by decide +kernel, rfl, by decide +kernel, by decide +kernel⟩
theorem ci8 : chkInit ⟨defScope (inClass (top 10) 0), defScope (inClass (top 10) 0)⟩ ["self", "many", "most"] ["many", "most"] (defBody (inClass (top 10) 0)) = true := by decide +kernel
def dI8 : He.DefD := ⟨("TooGreat", some "__init__"), "__init__", "TooGreat.__init__", defArgs (inClass (top 10) 0), defBody (inClass (top 10) 0), defScope (inClass (top 10) 0), [], []⟩
theorem law_true : LawTrue 63 g21 := s21
end K11
namespace K11
open PySem PySem.Spec PyProof.Rows L2 Ev
def fn : List He.DefD := [dOf "is_whole" (top 12), dOf "check_place" (top 13), dOf "leads_to" (top 14), dOf "some_good" (top 16), dOf "check_some" (top 17), dOf "is_lost" (top 18), dOf "why_not_good" (top 19), dOf "_law_cell_at" (top 21), dOf "_law_next" (top 22), dOf "_law_pen_of" (top 23), dOf "_law_draw" (top 24), dOf "_law_whole" (top 25), dOf "_law_kind_of" (top 26), dOf "_law_web_by" (top 27), dOf "_law_nexts" (top 28), dOf "_law_some" (top 29), dOf "_law_free" (top 30), dOf "_law_odd_some" (top 31), dOf "_law_due_of" (top 32), dOf "_law_things_of" (top 33), dOf "_law_refused" (top 34), dOf "law" (top 35), dI5, dI6, dI7, dI8]
def fa : List He.Fa := [.glo "is_whole", .glo "check_place", .glo "leads_to", .glo "some_good", .glo "check_some", .glo "is_lost", .glo "why_not_good", .glo "_law_cell_at", .glo "_law_next", .glo "_law_pen_of", .glo "_law_draw", .glo "_law_whole", .glo "_law_kind_of", .glo "_law_web_by", .glo "_law_nexts", .glo "_law_some", .glo "_law_free", .glo "_law_odd_some", .glo "_law_due_of", .glo "_law_things_of", .glo "_law_refused", .glo "law", .free "len", .free "isinstance", .free "range", .free "enumerate", .free "tuple", .free "list", .free "sorted", .free "max", .free "min", .free "sum", .free "all", .free "any", .free "int", .free "str", .free "bool", .free "dict", .free "set"]
def tu : List Tu := []
abbrev Rw : PySem.W.OpenRow := PySem.W.OpenLaw.row PySem.Challenge.rw_holdsets_k11_faults_by_anybody
abbrev hk : PySem.W.Hook := hookTu 6 fa fn tu exn
def ob (s : PySem.W.SharedT) : Bool × He.AlD := obsTuG 6 fa fn tu exn (HandSHeadRun.getT s)
theorem ob_eq (s : PySem.W.SharedT) : ob s = hk.obs s.abs := obsTuG_eq (HandSHeadRun.getT_eq s)
def loose : List Str := (["is_whole", "check_place", "leads_to", "some_good", "check_some", "is_lost", "why_not_good", "_law_cell_at", "_law_next", "_law_pen_of", "_law_draw", "_law_whole", "_law_kind_of", "_law_web_by", "_law_nexts", "_law_some", "_law_free", "_law_odd_some", "_law_due_of", "_law_things_of", "_law_refused", "WebError", "NoPlace", "NoHold"] : List Str) ++ (["NoArrow", "NoNumber", "NoRow", "NoWeb", "Ringed", "NoText", "TooGreat", "__name__"] : List Str)
theorem run (w : World) : HandSHeadRun.RunEq Rw (PySem.W.view Rw.prog [35]) hk ob 8000 loose w := by
  intro os
  kernel_rfl
theorem blt {K : PySem.W.Frag} {h : Heap} {mg : Str → Option Value} (X : K.In h) (G : h.Ns mainGlobals mg) (c : He.SaysD fa fn K) : ∀ x ∈ bltN, mg x = none := by
  have go : ∀ (i : Nat) (x : Str), fa[i]? = some (He.Fa.free x) → mg x = none := fun i x e => He.free_ok X G (c.fact i e)
  intro x hx
  have hm : ∃ i : Nat, fa[i]? = some (He.Fa.free x) := by
    have h2 : ∀ x ∈ bltN, ∃ i : Nat, i < 39 ∧ fa[i]? = some (He.Fa.free x) := by
      intro x hx
      simp only [bltN, sLen, sIsi, sRange, sEnum, List.mem_cons, List.mem_nil_iff, or_false] at hx
      rcases hx with rfl | rfl | rfl | rfl | rfl | rfl | rfl | rfl | rfl | rfl | rfl | rfl | rfl | rfl | rfl | rfl | rfl
      · exact ⟨22, by decide, rfl⟩
      · exact ⟨23, by decide, rfl⟩
      · exact ⟨24, by decide, rfl⟩
      · exact ⟨25, by decide, rfl⟩
      · exact ⟨26, by decide, rfl⟩
      · exact ⟨27, by decide, rfl⟩
      · exact ⟨28, by decide, rfl⟩
      · exact ⟨29, by decide, rfl⟩
      · exact ⟨30, by decide, rfl⟩
      · exact ⟨31, by decide, rfl⟩
      · exact ⟨32, by decide, rfl⟩
      · exact ⟨33, by decide, rfl⟩
      · exact ⟨34, by decide, rfl⟩
      · exact ⟨35, by decide, rfl⟩
      · exact ⟨36, by decide, rfl⟩
      · exact ⟨37, by decide, rfl⟩
      · exact ⟨38, by decide, rfl⟩
    obtain ⟨i, _, e⟩ := h2 x hx
    exact ⟨i, e⟩
  obtain ⟨i, e⟩ := hm
  exact go i x e
theorem facts {w : World} {K : PySem.W.Frag} {h : Heap} {mg : Str → Option Value} {f : Addr} (X : K.In h) (G : h.Ns mainGlobals mg) (hfa : mg ("law" : Str) = some (.ref f)) (ct : SaysTu fa fn tu exn K) :
    ∃ fd : FuncData, (∀ (s : Shared) (v : Value), BindsTo s fd ⟨[v], []⟩ [("script", v)]) ∧ ∀ base : Heap, K.In base → base.Ns mainGlobals mg → FnOk Prg w K mg base (L2N.CX Prg w) 24 f fd ["script"] (spF K (clsK K exn) g21) := by
  have c := ct.d
  obtain ⟨fd0, F0⟩ := c.def_ 0 (d := dOf "is_whole" (top 12)) rfl
  have b0 : Binds K fd0 ["thing"] [] := FunD.bindsN (ps := ["thing"]) F0 fun _ _ _ _ _ _ us hl => match us, hl with | [_], _ => rfl
  have m0 := He.glo_ok X G (c.fact 0 (f := .glo "is_whole") rfl)
  obtain ⟨fd1, F1⟩ := c.def_ 1 (d := dOf "check_place" (top 13)) rfl
  have b1 : Binds K fd1 ["web", "place"] [] := FunD.bindsN (ps := ["web", "place"]) F1 fun _ _ _ _ _ _ us hl => match us, hl with | [_, _], _ => rfl
  have m1 := He.glo_ok X G (c.fact 1 (f := .glo "check_place") rfl)
  obtain ⟨fd2, F2⟩ := c.def_ 2 (d := dOf "leads_to" (top 14)) rfl
  have b2 : Binds K fd2 ["web", "place"] [] := FunD.bindsN (ps := ["web", "place"]) F2 fun _ _ _ _ _ _ us hl => match us, hl with | [_, _], _ => rfl
  have m2 := He.glo_ok X G (c.fact 2 (f := .glo "leads_to") rfl)
  obtain ⟨fd3, F3⟩ := c.def_ 3 (d := dOf "some_good" (top 16)) rfl
  have b3 : Binds K fd3 ["web", "thing"] [] := FunD.bindsN (ps := ["web", "thing"]) F3 fun _ _ _ _ _ _ us hl => match us, hl with | [_, _], _ => rfl
  have m3 := He.glo_ok X G (c.fact 3 (f := .glo "some_good") rfl)
  obtain ⟨fd4, F4⟩ := c.def_ 4 (d := dOf "check_some" (top 17)) rfl
  have b4 : Binds K fd4 ["web", "thing"] [] := FunD.bindsN (ps := ["web", "thing"]) F4 fun _ _ _ _ _ _ us hl => match us, hl with | [_, _], _ => rfl
  have m4 := He.glo_ok X G (c.fact 4 (f := .glo "check_some") rfl)
  obtain ⟨fd5, F5⟩ := c.def_ 5 (d := dOf "is_lost" (top 18)) rfl
  have b5 : Binds K fd5 ["web", "places", "place"] [] := FunD.bindsN (ps := ["web", "places", "place"]) F5 fun _ _ _ _ _ _ us hl => match us, hl with | [_, _, _], _ => rfl
  have m5 := He.glo_ok X G (c.fact 5 (f := .glo "is_lost") rfl)
  obtain ⟨fd6, F6⟩ := c.def_ 6 (d := dOf "why_not_good" (top 19)) rfl
  have b6 : Binds K fd6 ["web", "places", "thing"] [] := FunD.bindsN (ps := ["web", "places", "thing"]) F6 fun _ _ _ _ _ _ us hl => match us, hl with | [_, _, _], _ => rfl
  have m6 := He.glo_ok X G (c.fact 6 (f := .glo "why_not_good") rfl)
  obtain ⟨fd7, F7⟩ := c.def_ 7 (d := dOf "_law_cell_at" (top 21)) rfl
  have b7 : Binds K fd7 ["script", "k"] [] := FunD.bindsN (ps := ["script", "k"]) F7 fun _ _ _ _ _ _ us hl => match us, hl with | [_, _], _ => rfl
  have m7 := He.glo_ok X G (c.fact 7 (f := .glo "_law_cell_at") rfl)
  obtain ⟨fd8, F8⟩ := c.def_ 8 (d := dOf "_law_next" (top 22)) rfl
  have b8 : Binds K fd8 ["seed"] [] := FunD.bindsN (ps := ["seed"]) F8 fun _ _ _ _ _ _ us hl => match us, hl with | [_], _ => rfl
  have m8 := He.glo_ok X G (c.fact 8 (f := .glo "_law_next") rfl)
  obtain ⟨fd9, F9⟩ := c.def_ 9 (d := dOf "_law_pen_of" (top 23)) rfl
  have b9 : Binds K fd9 ["cell"] [] := FunD.bindsN (ps := ["cell"]) F9 fun _ _ _ _ _ _ us hl => match us, hl with | [_], _ => rfl
  have m9 := He.glo_ok X G (c.fact 9 (f := .glo "_law_pen_of") rfl)
  obtain ⟨fd10, F10⟩ := c.def_ 10 (d := dOf "_law_draw" (top 24)) rfl
  have b10 : Binds K fd10 ["pen", "many"] [] := FunD.bindsN (ps := ["pen", "many"]) F10 fun _ _ _ _ _ _ us hl => match us, hl with | [_, _], _ => rfl
  have m10 := He.glo_ok X G (c.fact 10 (f := .glo "_law_draw") rfl)
  obtain ⟨fd11, F11⟩ := c.def_ 11 (d := dOf "_law_whole" (top 25)) rfl
  have b11 : Binds K fd11 ["found"] [] := FunD.bindsN (ps := ["found"]) F11 fun _ _ _ _ _ _ us hl => match us, hl with | [_], _ => rfl
  have m11 := He.glo_ok X G (c.fact 11 (f := .glo "_law_whole") rfl)
  obtain ⟨fd12, F12⟩ := c.def_ 12 (d := dOf "_law_kind_of" (top 26)) rfl
  have b12 : Binds K fd12 ["e"] [] := FunD.bindsN (ps := ["e"]) F12 fun _ _ _ _ _ _ us hl => match us, hl with | [_], _ => rfl
  have m12 := He.glo_ok X G (c.fact 12 (f := .glo "_law_kind_of") rfl)
  obtain ⟨fd13, F13⟩ := c.def_ 13 (d := dOf "_law_web_by" (top 27)) rfl
  have b13 : Binds K fd13 ["pen", "most"] [] := FunD.bindsN (ps := ["pen", "most"]) F13 fun _ _ _ _ _ _ us hl => match us, hl with | [_, _], _ => rfl
  have m13 := He.glo_ok X G (c.fact 13 (f := .glo "_law_web_by") rfl)
  obtain ⟨fd14, F14⟩ := c.def_ 14 (d := dOf "_law_nexts" (top 28)) rfl
  have b14 : Binds K fd14 ["web", "place"] [] := FunD.bindsN (ps := ["web", "place"]) F14 fun _ _ _ _ _ _ us hl => match us, hl with | [_, _], _ => rfl
  have m14 := He.glo_ok X G (c.fact 14 (f := .glo "_law_nexts") rfl)
  obtain ⟨fd15, F15⟩ := c.def_ 15 (d := dOf "_law_some" (top 29)) rfl
  have b15 : Binds K fd15 ["pen", "many"] [] := FunD.bindsN (ps := ["pen", "many"]) F15 fun _ _ _ _ _ _ us hl => match us, hl with | [_, _], _ => rfl
  have m15 := He.glo_ok X G (c.fact 15 (f := .glo "_law_some") rfl)
  obtain ⟨fd16, F16⟩ := c.def_ 16 (d := dOf "_law_free" (top 30)) rfl
  have b16 : Binds K fd16 ["pen", "web"] [] := FunD.bindsN (ps := ["pen", "web"]) F16 fun _ _ _ _ _ _ us hl => match us, hl with | [_, _], _ => rfl
  have m16 := He.glo_ok X G (c.fact 16 (f := .glo "_law_free") rfl)
  obtain ⟨fd17, F17⟩ := c.def_ 17 (d := dOf "_law_odd_some" (top 31)) rfl
  have b17 : Binds K fd17 ["pen", "many", "places"] [] := FunD.bindsN (ps := ["pen", "many", "places"]) F17 fun _ _ _ _ _ _ us hl => match us, hl with | [_, _, _], _ => rfl
  have m17 := He.glo_ok X G (c.fact 17 (f := .glo "_law_odd_some") rfl)
  obtain ⟨fd18, F18⟩ := c.def_ 18 (d := dOf "_law_due_of" (top 32)) rfl
  have b18 : Binds K fd18 ["web", "places", "thing"] [] := FunD.bindsN (ps := ["web", "places", "thing"]) F18 fun _ _ _ _ _ _ us hl => match us, hl with | [_, _, _], _ => rfl
  have m18 := He.glo_ok X G (c.fact 18 (f := .glo "_law_due_of") rfl)
  obtain ⟨fd19, F19⟩ := c.def_ 19 (d := dOf "_law_things_of" (top 33)) rfl
  have b19 : Binds K fd19 ["pen", "web"] [] := FunD.bindsN (ps := ["pen", "web"]) F19 fun _ _ _ _ _ _ us hl => match us, hl with | [_, _], _ => rfl
  have m19 := He.glo_ok X G (c.fact 19 (f := .glo "_law_things_of") rfl)
  obtain ⟨fd20, F20⟩ := c.def_ 20 (d := dOf "_law_refused" (top 34)) rfl
  have b20 : Binds K fd20 ["web", "thing"] [] := FunD.bindsN (ps := ["web", "thing"]) F20 fun _ _ _ _ _ _ us hl => match us, hl with | [_, _], _ => rfl
  have m20 := He.glo_ok X G (c.fact 20 (f := .glo "_law_refused") rfl)
  obtain ⟨fd21, F21⟩ := c.def_ 21 (d := dOf "law" (top 35)) rfl
  have b21 : Binds K fd21 ["script"] [] := FunD.bindsN (ps := ["script"]) F21 fun _ _ _ _ _ _ us hl => match us, hl with | [_], _ => rfl
  have m21 := He.glo_ok X G (c.fact 21 (f := .glo "law") rfl)
  have e := hfa.symm.trans m21
  cases e
  have b := FunD.bindsA (ps := ["script"]) F21 fun _ _ _ _ _ _ us hl => match us, hl with | [_], _ => rfl
  refine ⟨fd21, fun s v => b s [v] rfl, fun base _ _ => ?_⟩
  obtain ⟨fdI5, FI5⟩ := c.def_ 22 (d := dI5) rfl
  have bI5 : Binds K fdI5 ["self", "number"] [] := FunD.bindsN (ps := ["self", "number"]) FI5 fun _ _ _ _ _ _ us hl => match us, hl with | [_, _], _ => rfl
  obtain ⟨fdI6, FI6⟩ := c.def_ 23 (d := dI6) rfl
  have bI6 : Binds K fdI6 ["self", "ring"] [] := FunD.bindsN (ps := ["self", "ring"]) FI6 fun _ _ _ _ _ _ us hl => match us, hl with | [_, _], _ => rfl
  obtain ⟨fdI7, FI7⟩ := c.def_ 24 (d := dI7) rfl
  have bI7 : Binds K fdI7 ["self", "row"] [] := FunD.bindsN (ps := ["self", "row"]) FI7 fun _ _ _ _ _ _ us hl => match us, hl with | [_, _], _ => rfl
  obtain ⟨fdI8, FI8⟩ := c.def_ 25 (d := dI8) rfl
  have bI8 : Binds K fdI8 ["self", "many", "most"] [] := FunD.bindsN (ps := ["self", "many", "most"]) FI8 fun _ _ _ _ _ _ us hl => match us, hl with | [_, _, _], _ => rfl
  have EX : ExF exn (clsK K exn) Prg w K mg base := exF_of X G (ct.exn rfl) fun c0 x0 nm0 hc0 nn0 T0 hno0 => by
    have hm0 := exAt_mem hc0
    simp only [exn, List.mem_cons, Prod.mk.injEq, List.mem_nil_iff, or_false] at hm0
    rcases hm0 with ⟨rfl, rfl, rfl⟩ | ⟨rfl, rfl, rfl⟩ | ⟨rfl, rfl, rfl⟩ | ⟨rfl, rfl, rfl⟩ | ⟨rfl, rfl, rfl⟩ | ⟨rfl, rfl, rfl⟩ | ⟨rfl, rfl, rfl⟩ | ⟨rfl, rfl, rfl⟩ | ⟨rfl, rfl, rfl⟩
    · exact absurd rfl nn0
    · exact absurd rfl nn0
    · exact absurd rfl nn0
    · exact absurd rfl nn0
    · exact absurd rfl nn0
    · exact ⟨_, _, bI5, fn_init FI5 si5 ci5 rfl T0 hno0⟩
    · exact ⟨_, _, bI6, fn_init FI6 si6 ci6 rfl T0 hno0⟩
    · exact ⟨_, _, bI7, fn_init FI7 si7 ci7 rfl T0 hno0⟩
    · exact ⟨_, _, bI8, fn_init FI8 si8 ci8 rfl T0 hno0⟩
  have H0 : HotF (⟨[], []⟩ : Hot) [] (clsK K exn) Prg w K mg base 2 := HotF.nil
  have M0 : MOk (clsK K exn) [] [] con Prg w K mg base 2 := ⟨blt X G c, fun i x e => (by cases e), con_nil⟩
  have M1 : MOk (clsK K exn) ["is_whole"] [g0] con Prg w K mg base 3 := MOk.step M0 EX H0 (by decide) rfl F0 sc0 b0 m0 ck0
  have H1 : HotF (⟨[], []⟩ : Hot) ["is_whole"] (clsK K exn) Prg w K mg base 3 := H0.step "is_whole"
  have M2 : MOk (clsK K exn) ["is_whole", "check_place"] [g0, g1] con Prg w K mg base 4 := MOk.step M1 EX H1 (by decide) rfl F1 sc1 b1 m1 ck1
  have H2 : HotF (⟨[], []⟩ : Hot) ["is_whole", "check_place"] (clsK K exn) Prg w K mg base 4 := H1.step "check_place"
  have M3 : MOk (clsK K exn) ["is_whole", "check_place", "leads_to"] [g0, g1, g2] con Prg w K mg base 5 := MOk.step M2 EX H2 (by decide) rfl F2 sc2 b2 m2 ck2
  have H3 : HotF (⟨[], []⟩ : Hot) ["is_whole", "check_place", "leads_to"] (clsK K exn) Prg w K mg base 5 := H2.step "leads_to"
  have M4 : MOk (clsK K exn) ["is_whole", "check_place", "leads_to", "some_good"] [g0, g1, g2, g3] con Prg w K mg base 6 := MOk.step M3 EX H3 (by decide) rfl F3 sc3 b3 m3 ck3
  have H4 : HotF (⟨[], []⟩ : Hot) ["is_whole", "check_place", "leads_to", "some_good"] (clsK K exn) Prg w K mg base 6 := H3.step "some_good"
  have M5 : MOk (clsK K exn) ["is_whole", "check_place", "leads_to", "some_good", "check_some"] [g0, g1, g2, g3, g4] con Prg w K mg base 7 := MOk.step M4 EX H4 (by decide) rfl F4 sc4 b4 m4 ck4
  have H5 : HotF (⟨[], []⟩ : Hot) ["is_whole", "check_place", "leads_to", "some_good", "check_some"] (clsK K exn) Prg w K mg base 7 := H4.step "check_some"
  have M6 : MOk (clsK K exn) ["is_whole", "check_place", "leads_to", "some_good", "check_some", "is_lost"] [g0, g1, g2, g3, g4, g5] con Prg w K mg base 8 := MOk.step M5 EX H5 (by decide) rfl F5 sc5 b5 m5 ck5
  have H6 : HotF (⟨[], []⟩ : Hot) ["is_whole", "check_place", "leads_to", "some_good", "check_some", "is_lost"] (clsK K exn) Prg w K mg base 8 := H5.step "is_lost"
  have M7 : MOk (clsK K exn) ["is_whole", "check_place", "leads_to", "some_good", "check_some", "is_lost", "why_not_good"] [g0, g1, g2, g3, g4, g5, g6] con Prg w K mg base 9 := MOk.step M6 EX H6 (by decide) rfl F6 sc6 b6 m6 ck6
  have H7 : HotF (⟨[], []⟩ : Hot) ["is_whole", "check_place", "leads_to", "some_good", "check_some", "is_lost", "why_not_good"] (clsK K exn) Prg w K mg base 9 := H6.step "why_not_good"
  have M8 : MOk (clsK K exn) ["is_whole", "check_place", "leads_to", "some_good", "check_some", "is_lost", "why_not_good", "_law_cell_at"] [g0, g1, g2, g3, g4, g5, g6, g7] con Prg w K mg base 10 := MOk.step M7 EX H7 (by decide) rfl F7 sc7 b7 m7 ck7
  have H8 : HotF (⟨[], []⟩ : Hot) ["is_whole", "check_place", "leads_to", "some_good", "check_some", "is_lost", "why_not_good", "_law_cell_at"] (clsK K exn) Prg w K mg base 10 := H7.step "_law_cell_at"
  have M9 : MOk (clsK K exn) ["is_whole", "check_place", "leads_to", "some_good", "check_some", "is_lost", "why_not_good", "_law_cell_at", "_law_next"] [g0, g1, g2, g3, g4, g5, g6, g7, g8] con Prg w K mg base 11 := MOk.step M8 EX H8 (by decide) rfl F8 sc8 b8 m8 ck8
  have H9 : HotF (⟨[], []⟩ : Hot) ["is_whole", "check_place", "leads_to", "some_good", "check_some", "is_lost", "why_not_good", "_law_cell_at", "_law_next"] (clsK K exn) Prg w K mg base 11 := H8.step "_law_next"
  have M10 : MOk (clsK K exn) ["is_whole", "check_place", "leads_to", "some_good", "check_some", "is_lost", "why_not_good", "_law_cell_at", "_law_next", "_law_pen_of"] [g0, g1, g2, g3, g4, g5, g6, g7, g8, g9] con Prg w K mg base 12 := MOk.step M9 EX H9 (by decide) rfl F9 sc9 b9 m9 ck9
  have H10 : HotF (⟨[], []⟩ : Hot) ["is_whole", "check_place", "leads_to", "some_good", "check_some", "is_lost", "why_not_good", "_law_cell_at", "_law_next", "_law_pen_of"] (clsK K exn) Prg w K mg base 12 := H9.step "_law_pen_of"
  have M11 : MOk (clsK K exn) ["is_whole", "check_place", "leads_to", "some_good", "check_some", "is_lost", "why_not_good", "_law_cell_at", "_law_next", "_law_pen_of", "_law_draw"] [g0, g1, g2, g3, g4, g5, g6, g7, g8, g9, g10] con Prg w K mg base 13 := MOk.step M10 EX H10 (by decide) rfl F10 sc10 b10 m10 ck10
  have H11 : HotF (⟨[], []⟩ : Hot) ["is_whole", "check_place", "leads_to", "some_good", "check_some", "is_lost", "why_not_good", "_law_cell_at", "_law_next", "_law_pen_of", "_law_draw"] (clsK K exn) Prg w K mg base 13 := H10.step "_law_draw"
  have M12 : MOk (clsK K exn) ["is_whole", "check_place", "leads_to", "some_good", "check_some", "is_lost", "why_not_good", "_law_cell_at", "_law_next", "_law_pen_of", "_law_draw", "_law_whole"] [g0, g1, g2, g3, g4, g5, g6, g7, g8, g9, g10, g11] con Prg w K mg base 14 := MOk.step M11 EX H11 (by decide) rfl F11 sc11 b11 m11 ck11
  have H12 : HotF (⟨[], [11]⟩ : Hot) ["is_whole", "check_place", "leads_to", "some_good", "check_some", "is_lost", "why_not_good", "_law_cell_at", "_law_next", "_law_pen_of", "_law_draw", "_law_whole"] (clsK K exn) Prg w K mg base 14 := H11.addW m11 F11.kp b11 (fnh_whole F11 sc11 kw11 (blt X G c) rfl)
  have M13 : MOk (clsK K exn) ["is_whole", "check_place", "leads_to", "some_good", "check_some", "is_lost", "why_not_good", "_law_cell_at", "_law_next", "_law_pen_of", "_law_draw", "_law_whole", "_law_kind_of"] [g0, g1, g2, g3, g4, g5, g6, g7, g8, g9, g10, g11, g12] con Prg w K mg base 15 := MOk.skip M12 rfl F12.kp b12 m12
  have hn12 : ∀ (j : Nat) (y : Str), (["NoPlace", "NoHold", "NoArrow", "NoNumber", "NoRow", "NoWeb", "Ringed", "NoText", "TooGreat"] : List Str)[j]? = some y → ∃ nm, exAt exn j = some (y, nm) := fun j y h => by
    have hj := (List.getElem?_eq_some_iff.mp h).1
    match j, hj, h with
    | 0, _, h => cases h; exact ⟨_, rfl⟩
    | 1, _, h => cases h; exact ⟨_, rfl⟩
    | 2, _, h => cases h; exact ⟨_, rfl⟩
    | 3, _, h => cases h; exact ⟨_, rfl⟩
    | 4, _, h => cases h; exact ⟨_, rfl⟩
    | 5, _, h => cases h; exact ⟨_, rfl⟩
    | 6, _, h => cases h; exact ⟨_, rfl⟩
    | 7, _, h => cases h; exact ⟨_, rfl⟩
    | 8, _, h => cases h; exact ⟨_, rfl⟩
  have H13 : HotF (⟨[(12, ["place", "hold", "arrow", "number", "row", "web", "ringed", "text", "great"])], [11]⟩ : Hot) ["is_whole", "check_place", "leads_to", "some_good", "check_some", "is_lost", "why_not_good", "_law_cell_at", "_law_next", "_law_pen_of", "_law_draw", "_law_whole", "_law_kind_of"] (clsK K exn) Prg w K mg base 15 := H12.addK m12 F12.kp b12 rfl (fnk_of F12 sc12 kk12 (blt X G c) (ve_of X G (ct.exn rfl)) (kin_of X G (ct.exn rfl) hn12) rfl rfl)
  have M14 : MOk (clsK K exn) ["is_whole", "check_place", "leads_to", "some_good", "check_some", "is_lost", "why_not_good", "_law_cell_at", "_law_next", "_law_pen_of", "_law_draw", "_law_whole", "_law_kind_of", "_law_web_by"] [g0, g1, g2, g3, g4, g5, g6, g7, g8, g9, g10, g11, g12, g13] con Prg w K mg base 16 := MOk.step M13 EX H13 (by decide) rfl F13 sc13 b13 m13 ck13
  have H14 : HotF (⟨[(12, ["place", "hold", "arrow", "number", "row", "web", "ringed", "text", "great"])], [11]⟩ : Hot) ["is_whole", "check_place", "leads_to", "some_good", "check_some", "is_lost", "why_not_good", "_law_cell_at", "_law_next", "_law_pen_of", "_law_draw", "_law_whole", "_law_kind_of", "_law_web_by"] (clsK K exn) Prg w K mg base 16 := H13.step "_law_web_by"
  have M15 : MOk (clsK K exn) ["is_whole", "check_place", "leads_to", "some_good", "check_some", "is_lost", "why_not_good", "_law_cell_at", "_law_next", "_law_pen_of", "_law_draw", "_law_whole", "_law_kind_of", "_law_web_by", "_law_nexts"] [g0, g1, g2, g3, g4, g5, g6, g7, g8, g9, g10, g11, g12, g13, g14] con Prg w K mg base 17 := MOk.step M14 EX H14 (by decide) rfl F14 sc14 b14 m14 ck14
  have H15 : HotF (⟨[(12, ["place", "hold", "arrow", "number", "row", "web", "ringed", "text", "great"])], [11]⟩ : Hot) ["is_whole", "check_place", "leads_to", "some_good", "check_some", "is_lost", "why_not_good", "_law_cell_at", "_law_next", "_law_pen_of", "_law_draw", "_law_whole", "_law_kind_of", "_law_web_by", "_law_nexts"] (clsK K exn) Prg w K mg base 17 := H14.step "_law_nexts"
  have M16 : MOk (clsK K exn) ["is_whole", "check_place", "leads_to", "some_good", "check_some", "is_lost", "why_not_good", "_law_cell_at", "_law_next", "_law_pen_of", "_law_draw", "_law_whole", "_law_kind_of", "_law_web_by", "_law_nexts", "_law_some"] [g0, g1, g2, g3, g4, g5, g6, g7, g8, g9, g10, g11, g12, g13, g14, g15] con Prg w K mg base 18 := MOk.step M15 EX H15 (by decide) rfl F15 sc15 b15 m15 ck15
  have H16 : HotF (⟨[(12, ["place", "hold", "arrow", "number", "row", "web", "ringed", "text", "great"])], [11]⟩ : Hot) ["is_whole", "check_place", "leads_to", "some_good", "check_some", "is_lost", "why_not_good", "_law_cell_at", "_law_next", "_law_pen_of", "_law_draw", "_law_whole", "_law_kind_of", "_law_web_by", "_law_nexts", "_law_some"] (clsK K exn) Prg w K mg base 18 := H15.step "_law_some"
  have M17 : MOk (clsK K exn) ["is_whole", "check_place", "leads_to", "some_good", "check_some", "is_lost", "why_not_good", "_law_cell_at", "_law_next", "_law_pen_of", "_law_draw", "_law_whole", "_law_kind_of", "_law_web_by", "_law_nexts", "_law_some", "_law_free"] [g0, g1, g2, g3, g4, g5, g6, g7, g8, g9, g10, g11, g12, g13, g14, g15, g16] con Prg w K mg base 19 := MOk.step M16 EX H16 (by decide) rfl F16 sc16 b16 m16 ck16
  have H17 : HotF (⟨[(12, ["place", "hold", "arrow", "number", "row", "web", "ringed", "text", "great"])], [11]⟩ : Hot) ["is_whole", "check_place", "leads_to", "some_good", "check_some", "is_lost", "why_not_good", "_law_cell_at", "_law_next", "_law_pen_of", "_law_draw", "_law_whole", "_law_kind_of", "_law_web_by", "_law_nexts", "_law_some", "_law_free"] (clsK K exn) Prg w K mg base 19 := H16.step "_law_free"
  have M18 : MOk (clsK K exn) ["is_whole", "check_place", "leads_to", "some_good", "check_some", "is_lost", "why_not_good", "_law_cell_at", "_law_next", "_law_pen_of", "_law_draw", "_law_whole", "_law_kind_of", "_law_web_by", "_law_nexts", "_law_some", "_law_free", "_law_odd_some"] [g0, g1, g2, g3, g4, g5, g6, g7, g8, g9, g10, g11, g12, g13, g14, g15, g16, g17] con Prg w K mg base 20 := MOk.step M17 EX H17 (by decide) rfl F17 sc17 b17 m17 ck17
  have H18 : HotF (⟨[(12, ["place", "hold", "arrow", "number", "row", "web", "ringed", "text", "great"])], [11]⟩ : Hot) ["is_whole", "check_place", "leads_to", "some_good", "check_some", "is_lost", "why_not_good", "_law_cell_at", "_law_next", "_law_pen_of", "_law_draw", "_law_whole", "_law_kind_of", "_law_web_by", "_law_nexts", "_law_some", "_law_free", "_law_odd_some"] (clsK K exn) Prg w K mg base 20 := H17.step "_law_odd_some"
  have M19 : MOk (clsK K exn) ["is_whole", "check_place", "leads_to", "some_good", "check_some", "is_lost", "why_not_good", "_law_cell_at", "_law_next", "_law_pen_of", "_law_draw", "_law_whole", "_law_kind_of", "_law_web_by", "_law_nexts", "_law_some", "_law_free", "_law_odd_some", "_law_due_of"] [g0, g1, g2, g3, g4, g5, g6, g7, g8, g9, g10, g11, g12, g13, g14, g15, g16, g17, g18] con Prg w K mg base 21 := MOk.step M18 EX H18 (by decide) rfl F18 sc18 b18 m18 ck18
  have H19 : HotF (⟨[(12, ["place", "hold", "arrow", "number", "row", "web", "ringed", "text", "great"])], [11]⟩ : Hot) ["is_whole", "check_place", "leads_to", "some_good", "check_some", "is_lost", "why_not_good", "_law_cell_at", "_law_next", "_law_pen_of", "_law_draw", "_law_whole", "_law_kind_of", "_law_web_by", "_law_nexts", "_law_some", "_law_free", "_law_odd_some", "_law_due_of"] (clsK K exn) Prg w K mg base 21 := H18.step "_law_due_of"
  have M20 : MOk (clsK K exn) ["is_whole", "check_place", "leads_to", "some_good", "check_some", "is_lost", "why_not_good", "_law_cell_at", "_law_next", "_law_pen_of", "_law_draw", "_law_whole", "_law_kind_of", "_law_web_by", "_law_nexts", "_law_some", "_law_free", "_law_odd_some", "_law_due_of", "_law_things_of"] [g0, g1, g2, g3, g4, g5, g6, g7, g8, g9, g10, g11, g12, g13, g14, g15, g16, g17, g18, g19] con Prg w K mg base 22 := MOk.step M19 EX H19 (by decide) rfl F19 sc19 b19 m19 ck19
  have H20 : HotF (⟨[(12, ["place", "hold", "arrow", "number", "row", "web", "ringed", "text", "great"])], [11]⟩ : Hot) ["is_whole", "check_place", "leads_to", "some_good", "check_some", "is_lost", "why_not_good", "_law_cell_at", "_law_next", "_law_pen_of", "_law_draw", "_law_whole", "_law_kind_of", "_law_web_by", "_law_nexts", "_law_some", "_law_free", "_law_odd_some", "_law_due_of", "_law_things_of"] (clsK K exn) Prg w K mg base 22 := H19.step "_law_things_of"
  have M21 : MOk (clsK K exn) ["is_whole", "check_place", "leads_to", "some_good", "check_some", "is_lost", "why_not_good", "_law_cell_at", "_law_next", "_law_pen_of", "_law_draw", "_law_whole", "_law_kind_of", "_law_web_by", "_law_nexts", "_law_some", "_law_free", "_law_odd_some", "_law_due_of", "_law_things_of", "_law_refused"] [g0, g1, g2, g3, g4, g5, g6, g7, g8, g9, g10, g11, g12, g13, g14, g15, g16, g17, g18, g19, g20] con Prg w K mg base 23 := MOk.step M20 EX H20 (by decide) rfl F20 sc20 b20 m20 ck20
  have H21 : HotF (⟨[(12, ["place", "hold", "arrow", "number", "row", "web", "ringed", "text", "great"])], [11]⟩ : Hot) ["is_whole", "check_place", "leads_to", "some_good", "check_some", "is_lost", "why_not_good", "_law_cell_at", "_law_next", "_law_pen_of", "_law_draw", "_law_whole", "_law_kind_of", "_law_web_by", "_law_nexts", "_law_some", "_law_free", "_law_odd_some", "_law_due_of", "_law_things_of", "_law_refused"] (clsK K exn) Prg w K mg base 23 := H20.step "_law_refused"
  exact fn_ev M21 EX H21 (by decide) F21 sc21 ck21
end K11
open PySem PySem.W PySem.Calls PyProof.Rows
theorem PySem.Challenge.cw_holdsets_k11_faults_by_anybody_holds : PySem.Challenge.rw_holdsets_k11_faults_by_anybody.Holds := by
  w_on; o_law
  refine HandSHeadRun.head_any (r := OpenLaw.row PySem.Challenge.rw_holdsets_k11_faults_by_anybody) (q := view (OpenLaw.row PySem.Challenge.rw_holdsets_k11_faults_by_anybody).prog [35]) (H := K11.hk) (ob := K11.ob) (M := 8000) (loose := K11.loose) (d := HandSHeadRun.topDef (OpenLaw.row PySem.Challenge.rw_holdsets_k11_faults_by_anybody).prog 35) (kwd := []) K11.ob_eq
    (by kernel_rfl) (fun s => by kernel_rfl) K11.run (by kernel_rfl) (by kernel_rfl) (by kernel_rfl) (by rfl) (by first | assumption | decide +kernel) (by decide +kernel) ⟨rfl, rfl, rfl, rfl, rfl, by decide +kernel⟩ ?hw ?hc
  case hw => w_witness2
  case hc =>
    refine Ev.walk_ofEw (l := PySem.Challenge.rw_holdsets_k11_faults_by_anybody) (n := 63) (k := 24) (x := "script") (CX := fun w => L2N.CX K11.Prg w) rfl (by decide) (by kernel_rfl) ⟨rfl, by decide, by decide⟩ ?F (fun w H s e s' h => Ev.cx_no w H s e s' h)
    intro w mg fa h Y G hmg0
    obtain ⟨K, KX, c⟩ := Y
    have hmg : mg ("law" : PySem.Str) = some (.ref fa) := by
      have e : (HandSHeadRun.topDef (OpenLaw.row PySem.Challenge.rw_holdsets_k11_faults_by_anybody).prog 35).name = ("law" : PySem.Str) := by kernel_rfl
      rw [← e]
      exact hmg0
    obtain ⟨fd, hb, hF⟩ := K11.facts (w := w) KX G hmg c
    exact ⟨K, fd, _, KX, hb, fun H a ns hl _ hS => Ev.law_sp K11.law_true H a ns hl hS, hF⟩
