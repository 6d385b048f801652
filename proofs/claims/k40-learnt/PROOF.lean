import PyProof.Rows.All
import HandS.ForMost
import HandS.Walk
import HandS.TupAny
import HandS.TupMul
import HandS.TupLe
import HandS.IsInst
import HandS.Deep
import HandS.Style
import HandS.Zip
import HandS.NoneIn
import HandS.SortInts
import HandS.SortRule
import HandS.Flow
import KE.GoesMore
import PyProof.Rows.IntBool
import HandS.Text
import HandS.StrMore
import HandS.Replace
import HandS.Strs
import HandS.SetFor
import KE.KTupSum
import KE.GoesEnum
import HandS.Codes
import HandS.ReplaceList
import HandS.WordsExc
import HandS.ExcIs
import HandS.EndOwn
import PyProof.ExcBaseAll.ValueError
import Wide.All
import OpenK.AllK
import Wide.FinOn
import PySem.Challenge.RW_lampcodes_k40_learnt
set_option Elab.async false
set_option linter.all false
set_option maxRecDepth 100000
/-! LC: plain data, a compact tree of the text, its evaluator -/
namespace LC
open PySem L2

inductive D where
  | non | bl (b : Bool) | int (i : Int) | str (s : Str) | ref (a : Nat)
  | tup (xs : List D) | lst (xs : List D)

inductive R (α : Type) where
  | ok (a : α) | exc (c : Str) | bad

def R.bind {α β : Type} : R α → (α → R β) → R β
  | .ok a, f => f a
  | .exc c, _ => .exc c
  | .bad, _ => .bad

def LIM : Nat := 1000000

mutual
def toPy : D → PyData
  | .non => .none
  | .bl b => .bool b
  | .int i => .int i
  | .str s => .str s
  | .ref _ => .dict []
  | .tup xs => .tuple (toPys xs)
  | .lst xs => .list (toPys xs)
def toPys : List D → List PyData
  | [] => []
  | x :: xs => toPy x :: toPys xs
end

def truth : D → Option Bool
  | .non => some false
  | .bl b => some b
  | .int i => some (i != 0)
  | .str s => if s.length ≤ LIM then some ((s.length : Int) != 0) else none
  | .ref _ => none
  | .tup xs => some (!xs.isEmpty)
  | .lst xs => some (!xs.isEmpty)

def small64 (i : Int) : Bool := decide (-(2 ^ 64) < i) && decide (i < 2 ^ 64)

def dAdd : D → D → R D
  | .int i, .int j => .ok (.int (i + j))
  | .str a, .str b => if a.length + b.length ≤ LIM then .ok (.str (a ++ b)) else .bad
  | .tup a, .tup b => if a.length + b.length ≤ LIM then .ok (.tup (a ++ b)) else .bad
  | .lst a, .lst b => if a.length + b.length ≤ LIM then .ok (.lst (a ++ b)) else .bad
  | .bl k, .int j => .ok (.int ((if k = true then (1 : Int) else 0) + j))
  | _, _ => .bad
def dSub : D → D → R D
  | .int i, .int j => .ok (.int (i - j))
  | .bl k, .int j => .ok (.int ((if k = true then (1 : Int) else 0) - j))
  | .int i, .bl k => .ok (.int (i - if k = true then (1 : Int) else 0))
  | _, _ => .bad
def rep {α : Type} (xs : List α) (k : Int) : List α := (List.replicate k.toNat xs).flatten
def dMul : D → D → R D
  | .int i, .int j => if small64 i || small64 j then .ok (.int (i * j)) else .bad
  | .tup a, .int k => if a ≠ [] ∧ k ≤ 1000 ∧ a.length ≤ 1000 ∧ 0 ≤ k then .ok (.tup (rep a k)) else .bad
  | .lst a, .int k => if k ≤ 1000 ∧ a.length ≤ 1000 ∧ 0 ≤ k then .ok (.lst (rep a k)) else .bad
  | _, _ => .bad
def dDiv : D → D → R D
  | .int i, .int j => if 0 < j ∧ j < 1073741824 then .ok (.int (i / j)) else .bad
  | _, _ => .bad
def dMod : D → D → R D
  | .int i, .int j => if 0 < j then .ok (.int (i % j)) else .bad
  | .bl k, .int j => if 0 < j then .ok (.int ((if k = true then (1 : Int) else 0) % j)) else .bad
  | _, _ => .bad
def dPow : D → D → R D
  | .int i, .int j => if 0 ≤ j ∧ j ≤ 1000 ∧ small64 i then .ok (.int (i ^ j.toNat)) else .bad
  | _, _ => .bad
def dBin : Operator → D → D → R D
  | .Add, a, b => dAdd a b
  | .Sub, a, b => dSub a b
  | .Mult, a, b => dMul a b
  | .FloorDiv, a, b => dDiv a b
  | .Mod, a, b => dMod a b
  | .Pow, a, b => dPow a b
  | _, _, _ => .bad

def dEq (a b : D) : R Bool := if SeqAt.shaped (toPy a) && SeqAt.shaped (toPy b) then .ok (PyData.eqv (toPy a) (toPy b)) else .bad
def dOrd (p : Int → Int → Bool) : D → D → R D
  | .int i, .int j => .ok (.bl (p i j))
  | _, _ => .bad
def dIs : D → D → R Bool
  | .non, .non => .ok true
  | .non, .bl _ => .bad
  | .non, _ => .bad
  | .bl a, .bl b => .ok (decide (a = b))
  | _, .non => .ok false
  | _, _ => .bad
def dIn (x : D) : D → R Bool
  | .lst ys => if SeqAt.shaped (toPy x) && SeqAt.shaped (toPy (.lst ys)) then .ok (ys.any fun z => PyData.eqv (toPy z) (toPy x)) else .bad
  | .tup ys => if SeqAt.shaped (toPy x) && SeqAt.shaped (toPy (.tup ys)) then .ok (ys.any fun z => PyData.eqv (toPy z) (toPy x)) else .bad
  | .str z => match x with
    | .str s => match s.cps.toList with
      | [c] => .ok (decide (c ∈ z.cps.toList))
      | _ => .bad
    | _ => .bad
  | _ => .bad
def rB : R Bool → R D
  | .ok b => .ok (.bl b)
  | .exc c => .exc c
  | .bad => .bad
def rN : R Bool → R D
  | .ok b => .ok (.bl (!b))
  | .exc c => .exc c
  | .bad => .bad
def dCmp : CmpOp → D → D → R D
  | .Eq, a, b => rB (dEq a b)
  | .NotEq, a, b => rN (dEq a b)
  | .Lt, a, b => dOrd (fun i j => decide (i < j)) a b
  | .LtE, a, b => dOrd (fun i j => decide (i ≤ j)) a b
  | .Gt, a, b => dOrd (fun i j => decide (j < i)) a b
  | .GtE, a, b => dOrd (fun i j => decide (j ≤ i)) a b
  | .Is, a, b => rB (dIs a b)
  | .IsNot, a, b => rN (dIs a b)
  | .In, a, b => rB (dIn a b)
  | .NotIn, a, b => rN (dIn a b)

def dIdx : D → D → R D
  | .tup xs, .int i => match atI xs i with
    | some d => .ok d
    | none => .bad
  | .lst xs, .int i => match atI xs i with
    | some d => .ok d
    | none => .bad
  | .str s, .int i => if s.length ≤ LIM then match atI s.cps.toList i with
    | some c => .ok (.str ⟨#[c]⟩)
    | none => .bad
    else .bad
  | _, _ => .bad
def cutL {α : Type} (xs : List α) (lo hi : Option Int) : List α := (xs.drop (HT.sIx xs.length 0 lo)).take (HT.sIx xs.length xs.length hi - HT.sIx xs.length 0 lo)
def dCut (x : D) (l h : Option Int) : R D := match x with
  | .tup xs => .ok (.tup (cutL xs l h))
  | .lst xs => .ok (.lst (cutL xs l h))
  | .str s => if s.length ≤ LIM then .ok (.str (cutS s l h)) else .bad
  | _ => .bad

inductive Ty where
  | int | bool | str | tuple | list
  deriving DecidableEq
def dIsi : D → Ty → R Bool
  | .ref _, _ => .bad
  | .int _, .int => .ok true
  | .bl _, .int => .ok true
  | .bl _, .bool => .ok true
  | .str _, .str => .ok true
  | .tup _, .tuple => .ok true
  | .lst _, .list => .ok true
  | _, _ => .ok false

/-- steps of slices: [::-1], [::2], [1::2] -/
inductive Stp where
  | rev | even | odd
  deriving DecidableEq
def evens {α : Type} : List α → List α
  | [] => []
  | [x] => [x]
  | x :: _ :: r => x :: evens r
def stpL {α : Type} : Stp → List α → List α
  | .rev, xs => xs.reverse
  | .even, xs => evens xs
  | .odd, xs => evens xs.tail
def dStp (k : Stp) : D → R D
  | .tup xs => if xs.length ≤ LIM then .ok (.tup (stpL k xs)) else .bad
  | .lst xs => if xs.length ≤ LIM then .ok (.lst (stpL k xs)) else .bad
  | .str s => if k = .rev ∧ s.length ≤ LIM then .ok (.str ⟨s.cps.toList.reverse.toArray⟩) else .bad
  | _ => .bad

def intsOf : List D → Option (List Int)
  | [] => some []
  | .int i :: r => (intsOf r).map (i :: ·)
  | _ => none
def boolsOf : List D → Option (List Bool)
  | [] => some []
  | .bl i :: r => (boolsOf r).map (i :: ·)
  | _ => none
def maxL : Int → List Int → Int
  | m, [] => m
  | m, x :: r => maxL (if x > m then x else m) r
def minL : Int → List Int → Int
  | m, [] => m
  | m, x :: r => minL (if x < m then x else m) r

inductive Bi where
  | len | int | str | tuple | list | sum | max | min | abs | all | sorted
  deriving DecidableEq
def seqOf : D → Option (List D)
  | .tup xs => some xs
  | .lst xs => some xs
  | _ => none
def dLen : List D → R D
  | [.str s] => if s.length ≤ LIM then .ok (.int s.length) else .bad
  | [.tup xs] => .ok (.int xs.length)
  | [.lst xs] => .ok (.int xs.length)
  | _ => .bad
def dInt : List D → R D
  | [.int i] => .ok (.int i)
  | [.bl b] => .ok (.int (if b then 1 else 0))
  | [.str s] => if s.length ≤ 640 then match intText? s with
    | some n => .ok (.int n)
    | none => .bad
    else .bad
  | _ => .bad
def dStr : List D → R D
  | [.int i] => if i.natAbs < 10 ^ 30 then .ok (.str (toString i)) else .bad
  | _ => .bad
def dTuple : List D → R D
  | [.tup xs] => .ok (.tup xs)
  | [.lst xs] => .ok (.tup xs)
  | _ => .bad
def dList : List D → R D
  | [.tup xs] => .ok (.lst xs)
  | [.lst xs] => .ok (.lst xs)
  | _ => .bad
def dSum : List D → R D
  | [.tup xs] => match intsOf xs with
    | some ns => .ok (.int ns.sum)
    | none => .bad
  | [.lst xs] => match intsOf xs with
    | some ns => .ok (.int ns.sum)
    | none => .bad
  | _ => .bad
def dMax : List D → R D
  | [.int i, .int j] => .ok (.int (maxL i [j]))
  | [.int i, .int j, .int k] => .ok (.int (maxL i [j, k]))
  | [.tup xs] => match intsOf xs with
    | some (n :: ns) => .ok (.int (maxL n ns))
    | _ => .bad
  | [.lst xs] => match intsOf xs with
    | some (n :: ns) => .ok (.int (maxL n ns))
    | _ => .bad
  | _ => .bad
def dMin : List D → R D
  | [.int i, .int j] => .ok (.int (minL i [j]))
  | [.int i, .int j, .int k] => .ok (.int (minL i [j, k]))
  | [.tup xs] => match intsOf xs with
    | some (n :: ns) => .ok (.int (minL n ns))
    | _ => .bad
  | [.lst xs] => match intsOf xs with
    | some (n :: ns) => .ok (.int (minL n ns))
    | _ => .bad
  | _ => .bad
def dAbs : List D → R D
  | [.int i] => .ok (.int (if i < 0 then -i else i))
  | _ => .bad
def dAll : List D → R D
  | [.lst xs] => match boolsOf xs with
    | some bs => .ok (.bl (bs.all id))
    | none => .bad
  | _ => .bad
def insI (x : Int) : List Int → List Int
  | [] => [x]
  | y :: r => if x ≤ y then x :: y :: r else y :: insI x r
def srtI : List Int → List Int
  | [] => []
  | x :: r => insI x (srtI r)
def leP (p q : Int × Int) : Prop := p.1 < q.1 ∨ (p.1 = q.1 ∧ p.2 ≤ q.2)
instance (p q : Int × Int) : Decidable (leP p q) := inferInstanceAs (Decidable (_ ∨ _))
def insP (x : Int × Int) : List (Int × Int) → List (Int × Int)
  | [] => [x]
  | y :: r => if leP x y then x :: y :: r else y :: insP x r
def srtP : List (Int × Int) → List (Int × Int)
  | [] => []
  | x :: r => insP x (srtP r)
def prsOf : List D → Option (List (Int × Int))
  | [] => some []
  | .tup [.int a, .int b] :: r => (prsOf r).map ((a, b) :: ·)
  | _ => none
def prD1 (p : Int × Int) : D := .tup [.int p.1, .int p.2]
def dSorted : List D → R D
  | [.lst xs] => match intsOf xs with
    | some ns => .ok (.lst ((srtI ns).map D.int))
    | none => match prsOf xs with
      | some ps => .ok (.lst ((srtP ps).map prD1))
      | none => .bad
  | [.tup xs] => match intsOf xs with
    | some ns => .ok (.lst ((srtI ns).map D.int))
    | none => .bad
  | _ => .bad
/-- a strictly rising list of the same members -/
def insU (x : Int) : List Int → List Int
  | [] => [x]
  | y :: r => if x < y then x :: y :: r else if x = y then y :: r else y :: insU x r
def srtU : List Int → List Int
  | [] => []
  | x :: r => insU x (srtU r)
/-- sorted(set(t)), len(set(t)), t a tuple of ints -/
def dSst : D → R D
  | .tup xs => match intsOf xs with
    | some ns => if ns.length < 64 then .ok (.lst ((srtU ns).map D.int)) else .bad
    | none => .bad
  | _ => .bad
def dLss : D → R D
  | .tup xs => match intsOf xs with
    | some ns => if ns.length < 64 then .ok (.int (srtU ns).length) else .bad
    | none => .bad
  | _ => .bad
def strsOf : List D → Option (List Str)
  | [] => some []
  | .str i :: r => (strsOf r).map (i :: ·)
  | _ => none
/-- methods of texts -/
inductive Mth where
  | join | split | index
  deriving DecidableEq
def dJoin (a : Str) : List D → R D
  | [.lst ys] => match strsOf ys with
    | some ss => if (ss.map (·.length)).sum + ss.length * a.length ≤ LIM then .ok (.str (Txt.join a ss)) else .bad
    | none => .bad
  | _ => .bad
def dSplit (a : Str) : List D → R D
  | [.str b] => if (b.length == 0) = false ∧ a.length ≤ LIM then .ok (.lst ((Txt.split a b).map D.str)) else .bad
  | _ => .bad
def dIndex (a : Str) : List D → R D
  | [.str b] => match Builtin.Str.occurrences a b 0 a.length 1 with
    | i :: _ => .ok (.int (i : Nat))
    | [] => .bad
  | _ => .bad
def dMth (m : Mth) (x : D) (ys : List D) : R D := match x with
  | .str a => match m with
    | .join => dJoin a ys
    | .split => dSplit a ys
    | .index => dIndex a ys
  | _ => .bad
def dRpl : D → Option D → Option D → R D
  | .str a, some (.str b), some (.str z) => if (b == z) = false ∧ a.length ≤ LIM ∧ z.length ≤ 14 then .ok (.str (Txt.replace a b z)) else .bad
  | _, _, _ => .bad
def dKin (neg : Bool) : D → Option (List (Str × D)) → R D
  | .str z, some kvs => .ok (.bl (if neg = true then !(kvs.lookup z).isSome else (kvs.lookup z).isSome))
  | _, _ => .bad
def dKget : D → Option (List (Str × D)) → R D
  | .str z, some kvs => match kvs.lookup z with
    | some d => .ok d
    | none => .bad
  | _, _ => .bad
def dBi : Bi → List D → R D
  | .len, xs => dLen xs
  | .int, xs => dInt xs
  | .str, xs => dStr xs
  | .tuple, xs => dTuple xs
  | .list, xs => dList xs
  | .sum, xs => dSum xs
  | .max, xs => dMax xs
  | .min, xs => dMin xs
  | .abs, xs => dAbs xs
  | .all, xs => dAll xs
  | .sorted, xs => dSorted xs

/-- what is walked -/
inductive Src where
  | seq | rng | enum | zip
  deriving DecidableEq
def rgL (lo : Int) (n : Nat) : List D := (List.range n).map fun i => D.int (lo + (i : Nat))
def rgC (lo c : Int) (n : Nat) : List D := (List.range n).map fun i => D.int (lo + (i : Nat) * c)
def enumL : Nat → List D → List D
  | _, [] => []
  | i, x :: r => .tup [.int (i : Nat), x] :: enumL (i + 1) r
def zipL : List D → List D → List D
  | x :: xs, y :: ys => .tup [x, y] :: zipL xs ys
  | _, _ => []
def small62 (i : Int) : Bool := decide (-(2 ^ 30) ≤ i) && decide (i < 2 ^ 30)
def itSeq : List D → R (List D)
  | [.tup xs] => .ok xs
  | [.lst xs] => .ok xs
  | [.str s] => .ok (s.cps.toList.map fun c => .str ⟨#[c]⟩)
  | _ => .bad
def itRng : List D → R (List D)
  | [.int n] => if small62 n then .ok (rgL 0 n.toNat) else .bad
  | [.int a, .int b] => if small62 a && small62 b then .ok (rgL a (b - a).toNat) else .bad
  | [.int a, .int b, .int c] => if (small62 a && small62 b && decide (0 < c ∧ c < 1000)) = true then .ok (rgC a c (if a < b then ((b - a - 1) / c + 1).toNat else 0)) else .bad
  | _ => .bad
def itEnum : List D → R (List D)
  | [x] => match seqOf x with
    | some xs => .ok (enumL 0 xs)
    | none => .bad
  | _ => .bad
def itZip : List D → R (List D)
  | [x, y] => match seqOf x, seqOf y with
    | some xs, some ys => .ok (zipL xs ys)
    | _, _ => .bad
  | _ => .bad
def items : Src → List D → R (List D)
  | .seq, ds => itSeq ds
  | .rng, ds => itRng ds
  | .enum, ds => itEnum ds
  | .zip, ds => itZip ds

inductive Tg where
  | one (i : Nat) | many (is : List Nat)
  deriving DecidableEq

inductive E where
  | var (i : Nat)
  | cst (d : D)
  | glb (x : Str)
  | bin (o : Operator) (a b : E)
  | neg (a : E)
  | cmp (o : CmpOp) (a b : E)
  | chn (o o' : CmpOp) (a b c : E)
  | and (a b : E)
  | or (a b : E)
  | not (a : E)
  | idx (a b : E)
  | cut (a : E) (bl : Bool) (lo : E) (bh : Bool) (hi : E)
  | stp (k : Stp) (a : E)
  | tup (es : List E)
  | lst (es : List E)
  | call (f : Str) (es : List E)
  | bi (b : Bi) (es : List E)
  | isi (a : E) (t : Ty)
  | lc (own : List Nat) (tg : Tg) (k : Src) (ss : List E) (cond elt : E)
  | mth (m : Mth) (o : E) (es : List E)
  | rpl (o : E) (x y : Str)
  | kin (neg : Bool) (a : E) (x : Str)
  | kget (x : Str) (a : E)
  | sst (a : E)
  | lss (a : E)

inductive S where
  | set (i : Nat) (e : E)
  | own (i : Nat) (e : E)
  | unp (is : List Nat) (e : E)
  | app (i : Nat) (e : E)
  | ext (i : Nat) (e : E)
  | put (i : Nat) (k e : E)
  | frz (i : Nat)
  | ife (c : E) (a b : List S)
  | for_ (tg : Tg) (k : Src) (ss : List E) (body : List S)
  | whl (c : E) (body : List S)
  | ret (e : E)
  | pas
  | rse (c : Str)
  | nst (i : Nat) (tg : Tg) (k : Src) (ss : List E) (cond e : E)
  | told (i : Nat) (f : Str) (es : List E)

abbrev Rho := List (Option D)

structure Cf where
  glb : List (Str × D)
  call : Str → List D → R D
  dct : List (Str × List (Str × D))
  xc : Str → List D → Option Str

def get (ρ : Rho) (i : Nat) : R D := match ρ[i]? with
  | some (some d) => .ok d
  | _ => .bad
def wipeR (ρ : Rho) : List Nat → Rho
  | [] => ρ
  | v :: vs => (wipeR ρ vs).set v none
def setAll : List Nat → List D → Rho → Option Rho
  | [], [], ρ => some ρ
  | i :: is, d :: ds, ρ => setAll is ds (ρ.set i (some d))
  | _, _, _ => none
/-- the target of a loop -/
def bindT : Tg → D → Rho → Option Rho
  | .one i, d, ρ => some (ρ.set i (some d))
  | .many is, .tup ds, ρ => setAll is ds ρ
  | _, _, _ => none
def lcGo (f : D → R (Option D)) : List D → R (List D)
  | [] => .ok []
  | d :: ds => (f d).bind fun o => (lcGo f ds).bind fun r => .ok (match o with
    | some x => x :: r
    | none => r)
def rTruth : D → R Bool := fun d => match truth d with
  | some b => .ok b
  | none => .bad

/-- a part of a slice: left out, or an int -/
def prt : Bool → R D → R (Option Int)
  | false, _ => .ok none
  | true, .ok (.int i) => .ok (some i)
  | true, .exc c => .exc c
  | true, _ => .bad
mutual
def ev (c : Cf) : E → Rho → R D
  | .var i, ρ => get ρ i
  | .cst d, _ => .ok d
  | .glb x, _ => match c.glb.lookup x with
    | some d => .ok d
    | none => .bad
  | .bin o a b, ρ => (ev c a ρ).bind fun x => (ev c b ρ).bind fun y => dBin o x y
  | .neg a, ρ => (ev c a ρ).bind fun x => match x with
    | .int i => .ok (.int (-i))
    | _ => .bad
  | .cmp o a b, ρ => (ev c a ρ).bind fun x => (ev c b ρ).bind fun y => dCmp o x y
  | .chn o o' a b e, ρ => (ev c a ρ).bind fun x => (ev c b ρ).bind fun y => (dCmp o x y).bind fun z => match z with
    | .bl true => (ev c e ρ).bind fun w => dCmp o' y w
    | .bl false => .ok (.bl false)
    | _ => .bad
  | .and a b, ρ => (ev c a ρ).bind fun x => match x with
    | .bl true => ev c b ρ
    | .bl false => .ok (.bl false)
    | _ => .bad
  | .or a b, ρ => (ev c a ρ).bind fun x => match x with
    | .bl true => .ok (.bl true)
    | .bl false => ev c b ρ
    | _ => .bad
  | .not a, ρ => (ev c a ρ).bind fun x => match x with
    | .bl b => .ok (.bl (!b))
    | _ => .bad
  | .idx a b, ρ => (ev c a ρ).bind fun x => (ev c b ρ).bind fun y => dIdx x y
  | .cut a bl lo bh hi, ρ => (ev c a ρ).bind fun x => (prt bl (ev c lo ρ)).bind fun l => (prt bh (ev c hi ρ)).bind fun h => dCut x l h
  | .stp k a, ρ => (ev c a ρ).bind fun x => dStp k x
  | .tup es, ρ => (evs c es ρ).bind fun xs => if xs.length ≤ LIM then .ok (.tup xs) else .bad
  | .lst es, ρ => (evs c es ρ).bind fun xs => if xs.length ≤ LIM then .ok (.lst xs) else .bad
  | .call f es, ρ => (evs c es ρ).bind fun xs => c.call f xs
  | .bi b es, ρ => (evs c es ρ).bind fun xs => dBi b xs
  | .isi a t, ρ => (ev c a ρ).bind fun x => rB (dIsi x t)
  | .lc own tg k ss cond elt, ρ => (evs c ss ρ).bind fun xs => (items k xs).bind fun its =>
      if its.length ≤ LIM then (lcGo (fun d => match bindT tg d (wipeR ρ own) with
        | some ρ' => (ev c cond ρ').bind fun t => (rTruth t).bind fun b => match b with
          | true => (ev c elt ρ').bind fun x => .ok (some x)
          | false => .ok none
        | none => .bad) its).bind fun r => .ok (.lst r) else .bad
  | .mth m o es, ρ => (ev c o ρ).bind fun x => (evs c es ρ).bind fun ys => dMth m x ys
  | .rpl o x y, ρ => (ev c o ρ).bind fun v => dRpl v (c.glb.lookup x) (c.glb.lookup y)
  | .kin neg a x, ρ => (ev c a ρ).bind fun v => dKin neg v (c.dct.lookup x)
  | .kget x a, ρ => (ev c a ρ).bind fun v => dKget v (c.dct.lookup x)
  | .sst a, ρ => (ev c a ρ).bind dSst
  | .lss a, ρ => (ev c a ρ).bind dLss
def evs (c : Cf) : List E → Rho → R (List D)
  | [], _ => .ok []
  | e :: es, ρ => (ev c e ρ).bind fun x => (evs c es ρ).bind fun xs => .ok (x :: xs)
end

inductive Fl where
  | nx (ρ : Rho) | rt (d : D)

def forGo (f : D → Rho → R Fl) : List D → Rho → R Fl
  | [], ρ => .ok (.nx ρ)
  | d :: ds, ρ => (f d ρ).bind fun z => match z with
    | .nx ρ' => forGo f ds ρ'
    | .rt x => .ok (.rt x)
def whlGo (t : Rho → R Bool) (f : Rho → R Fl) : Nat → Rho → R Fl
  | 0, _ => .bad
  | n + 1, ρ => (t ρ).bind fun b => match b with
    | true => (f ρ).bind fun z => match z with
      | .nx ρ' => whlGo t f n ρ'
      | .rt x => .ok (.rt x)
    | false => .ok (.nx ρ)

def setAt (xs : List D) (k : Int) (d : D) : Option (List D) := (ixN xs.length k).map fun j => xs.set j d

/-- a list of lists that grows at its end: what is done, what is under way -/
def nstGo (f : D → Rho → R (Option D × Rho)) : List D → List D → List D → Rho → R (List D × Rho)
  | [], dn, cu, ρ => .ok (dn ++ [.lst cu], ρ)
  | d :: r, dn, cu, ρ => (f d ρ).bind fun z => match z.1 with
    | none => if dn.length + 1 < LIM then nstGo f r (dn ++ [.lst cu]) [] z.2 else .bad
    | some x => if cu.length < LIM then nstGo f r dn (cu ++ [x]) z.2 else .bad
def nstF (c : Cf) (tg : Tg) (cond e : E) (d : D) (ρ : Rho) : R (Option D × Rho) := match bindT tg d ρ with
  | some ρ' => (ev c cond ρ').bind fun t => (rTruth t).bind fun b => match b with
    | true => .ok (none, ρ')
    | false => (ev c e ρ').bind fun x => .ok (some x, ρ')
  | none => .bad
/-- a deed that is told: what it gives, or the class that refuses it -/
def tldR : R D → Option Str → R D
  | .ok d, _ => .ok (.tup [.str "told", d])
  | _, some c => if c = "NoText" then .ok (.tup [.str "refused", .int 0]) else if c = "NoRoom" then .ok (.tup [.str "refused", .int 1]) else .bad
  | _, none => .bad
mutual
def xs (c : Cf) (wf : Nat) : S → Rho → R Fl
  | .set i e, ρ => (ev c e ρ).bind fun d => .ok (.nx (ρ.set i (some d)))
  | .own i e, ρ => (ev c e ρ).bind fun d => match d with
    | .lst ds => match ρ[i]? with
      | some _ => .ok (.nx (ρ.set i (some (.lst ds))))
      | none => .bad
    | _ => .bad
  | .unp is e, ρ => (ev c e ρ).bind fun d => match seqOf d with
    | some ds => match setAll is ds ρ with
      | some ρ' => .ok (.nx ρ')
      | none => .bad
    | none => .bad
  | .app i e, ρ => (ev c e ρ).bind fun d => (get ρ i).bind fun l => match l with
    | .lst ds => if ds.length < LIM then .ok (.nx (ρ.set i (some (.lst (ds ++ [d]))))) else .bad
    | _ => .bad
  | .ext i e, ρ => (ev c e ρ).bind fun d => (get ρ i).bind fun l => match l, d with
    | .lst ds, .lst es => if ds.length + es.length < LIM then .ok (.nx (ρ.set i (some (.lst (ds ++ es))))) else .bad
    | _, _ => .bad
  | .put i k e, ρ => (ev c e ρ).bind fun d => (ev c k ρ).bind fun z => (get ρ i).bind fun l => match l, z with
    | .lst ds, .int n => match setAt ds n d with
      | some es => .ok (.nx (ρ.set i (some (.lst es))))
      | none => .bad
    | _, _ => .bad
  | .frz _, ρ => .ok (.nx ρ)
  | .ife t a b, ρ => (ev c t ρ).bind fun d => (rTruth d).bind fun v => match v with
    | true => xss c wf a ρ
    | false => xss c wf b ρ
  | .for_ tg k ss body, ρ => (evs c ss ρ).bind fun ys => (items k ys).bind fun its =>
      forGo (fun d ρ => match bindT tg d ρ with
        | some ρ' => xss c wf body ρ'
        | none => .bad) its ρ
  | .whl t body, ρ => whlGo (fun ρ => (ev c t ρ).bind rTruth) (fun ρ => xss c wf body ρ) wf ρ
  | .ret e, ρ => (ev c e ρ).bind fun d => .ok (.rt d)
  | .pas, ρ => .ok (.nx ρ)
  | .rse _, _ => .bad
  | .nst i tg k ss cond e, ρ => match ρ[i]? with
    | some _ => (evs c ss (ρ.set i (some (.ref 0)))).bind fun ys => (items k ys).bind fun its => (nstGo (nstF c tg cond e) its [] [] (ρ.set i (some (.ref 0)))).bind fun z => .ok (.nx (z.2.set i (some (.lst z.1))))
    | none => .bad
  | .told i f es, ρ => (evs c es ρ).bind fun ds => (tldR (c.call f ds) (c.xc f ds)).bind fun d => .ok (.nx (ρ.set i (some d)))
def xss (c : Cf) (wf : Nat) : List S → Rho → R Fl
  | [], ρ => .ok (.nx ρ)
  | s :: r, ρ => (xs c wf s ρ).bind fun z => match z with
    | .nx ρ' => xss c wf r ρ'
    | .rt x => .ok (.rt x)
end

/-! what is raised -/
def lcX (f : D → R (Option D)) (g : D → Option Str) : List D → Option Str
  | [] => none
  | d :: r => match g d with
    | some x => some x
    | none => match f d with
      | .ok _ => lcX f g r
      | _ => none
def xcl (c : Cf) : E → Rho → Option Str
  | .call f es, ρ => match evs c es ρ with
    | .ok ds => c.xc f ds
    | _ => none
  | _, _ => none
def xlc (c : Cf) : E → Rho → Option Str
  | .lc own tg k ss cond elt, ρ => match evs c ss ρ with
    | .ok ys => match items k ys with
      | .ok its => lcX (fun d => match bindT tg d (wipeR ρ own) with
        | some ρ' => (ev c elt ρ').bind fun x => .ok (some x)
        | none => .bad) (fun d => match bindT tg d (wipeR ρ own) with
        | some ρ' => xcl c elt ρ'
        | none => none) its
      | _ => none
    | _ => none
  | _, _ => none
/-- f(..), [f(..) for ..], tuple([f(..) for ..]) -/
def xev (c : Cf) : E → Rho → Option Str
  | .call f es, ρ => xcl c (.call f es) ρ
  | .lc own tg k ss cond elt, ρ => xlc c (.lc own tg k ss cond elt) ρ
  | .bi .tuple [e], ρ => xlc c e ρ
  | _, _ => none
mutual
def xr (c : Cf) (wf : Nat) : S → Rho → Option Str
  | .rse x, _ => some x
  | .ife t a b, ρ => match ev c t ρ with
    | .ok d => match rTruth d with
      | .ok true => xrs c wf a ρ
      | .ok false => xrs c wf b ρ
      | _ => none
    | _ => none
  | .set _ e, ρ => xev c e ρ
  | .ret e, ρ => xev c e ρ
  | _, _ => none
def xrs (c : Cf) (wf : Nat) : List S → Rho → Option Str
  | [], _ => none
  | s :: r, ρ => match xr c wf s ρ with
    | some x => some x
    | none => match xs c wf s ρ with
      | .ok (.nx ρ') => xrs c wf r ρ'
      | _ => none
end

structure Fn where
  np : Nat
  ns : Nat
  body : List S

def startR (fn : Fn) (ds : List D) : Rho := ds.map some ++ List.replicate (fn.ns - ds.length) none
def finish : R Fl → R D
  | .ok (.nx _) => .ok .non
  | .ok (.rt d) => .ok d
  | .exc c => .exc c
  | .bad => .bad

structure Pg where
  glb : List (Str × D)
  fns : List (Str × Fn)
  wf : Nat
  dct : List (Str × List (Str × D))
  rps : List (Str × Str)

/-- what a def gives; the class that it raises -/
def runB (p : Pg) : Nat → (Str → List D → R D) × (Str → List D → Option Str)
  | 0 => (fun _ _ => .bad, fun _ _ => none)
  | n + 1 => (fun f ds => match p.fns.lookup f with
    | some fn => if ds.length = fn.np then finish (xss ⟨p.glb, (runB p n).1, p.dct, (runB p n).2⟩ p.wf fn.body (startR fn ds)) else .bad
    | none => .bad,
    fun f ds => match p.fns.lookup f with
    | some fn => if ds.length = fn.np then xrs ⟨p.glb, (runB p n).1, p.dct, (runB p n).2⟩ p.wf fn.body (startR fn ds) else none
    | none => none)
def run (p : Pg) (n : Nat) : Str → List D → R D := (runB p n).1
def runX (p : Pg) (n : Nat) : Str → List D → Option Str := (runB p n).2
theorem run_zero {p : Pg} {f : Str} {ds : List D} : run p 0 f ds = .bad := rfl
theorem run_succ {p : Pg} {n : Nat} {f : Str} {ds : List D} : run p (n + 1) f ds = match p.fns.lookup f with
    | some fn => if ds.length = fn.np then finish (xss ⟨p.glb, run p n, p.dct, runX p n⟩ p.wf fn.body (startR fn ds)) else .bad
    | none => .bad := rfl
theorem runX_succ {p : Pg} {n : Nat} {f : Str} {ds : List D} : runX p (n + 1) f ds = match p.fns.lookup f with
    | some fn => if ds.length = fn.np then xrs ⟨p.glb, run p n, p.dct, runX p n⟩ p.wf fn.body (startR fn ds) else none
    | none => none := rfl
end LC

set_option Elab.async false
set_option linter.all false
set_option maxRecDepth 100000
set_option maxHeartbeats 1000000
/-! LC: what stands for what -/
namespace LC
open PySem L2

def TupAt (K : PySem.W.Frag) (O : Addr → Prop) (H : Hp) (a : Addr) (vs : List V) : Prop := (Rd H a (.tup vs) ∧ ¬ O a) ∨ SqT K (fun _ => none) a vs
def LstAt (O : Addr → Prop) (H : Hp) (a : Addr) (vs : List V) : Prop := Rd H a (.lst vs) ∧ ¬ O a

mutual
def Rp (K : PySem.W.Frag) (O : Addr → Prop) (H : Hp) : D → V → Prop
  | .non, v => v = .non
  | .bl b, v => v = .bl b
  | .int i, v => v = .int i
  | .str s, v => v = .str s
  | .ref _, v => ∃ b, v = .ref b
  | .tup ds, v => ∃ a vs, v = .ref a ∧ TupAt K O H a vs ∧ RpL K O H ds vs
  | .lst ds, v => ∃ a vs, v = .ref a ∧ LstAt O H a vs ∧ RpL K O H ds vs
def RpL (K : PySem.W.Frag) (O : Addr → Prop) (H : Hp) : List D → List V → Prop
  | [], vs => vs = []
  | d :: ds, vs => ∃ v r, vs = v :: r ∧ Rp K O H d v ∧ RpL K O H ds r
end

/-- what stays: all but the owned -/
def NT (o : HO) : Prop := ∀ ps, o ≠ .tbl ps
structure Keep (O O' : Addr → Prop) (H H' : Hp) : Prop where
  heap : ∀ b o, H b = some o → ¬ O b ∧ NT o → H' b = some o
  own : ∀ b, (∃ o, H b = some o ∧ NT o) → O' b → O b

theorem liv_ne {H : Hp} {b : Addr} (h : ∃ o, H b = some o ∧ NT o) : H b ≠ none := fun z => by
  obtain ⟨o, e, _⟩ := h
  rw [z] at e
  exact nomatch e
section
variable {K : PySem.W.Frag} {O O' : Addr → Prop} {H H' H2 : Hp} {a : Addr} {vs ws : List V} {ds es : List D} {d : D} {v : V}
theorem Keep.rd (k : Keep O O' H H') {u : HO} (h : Rd H a u) (n : ¬ O a) (nt : NT u) : Rd H' a u ∧ ¬ O' a := by
  rcases h with h | ⟨o, h⟩
  · exact ⟨.inl (k.heap _ _ h ⟨n, nt⟩), fun z => n (k.own a ⟨_, h, nt⟩ z)⟩
  · exact ⟨.inr ⟨o, k.heap _ _ h ⟨n, fun ps z => nomatch z⟩⟩, fun z => n (k.own a ⟨_, h, fun ps z => nomatch z⟩ z)⟩
theorem Keep.tupAt (k : Keep O O' H H') (h : TupAt K O H a vs) : TupAt K O' H' a vs := by
  rcases h with ⟨h, n⟩ | h
  · exact .inl (k.rd h n fun ps z => nomatch z)
  · exact .inr h
theorem Keep.lstAt (k : Keep O O' H H') (h : LstAt O H a vs) : LstAt O' H' a vs := k.rd h.1 h.2 fun ps z => nomatch z
mutual
theorem Keep.rp (k : Keep O O' H H') : ∀ (d : D) (v : V), Rp K O H d v → Rp K O' H' d v
  | .non, _, h => by rw [Rp] at h ⊢; exact h
  | .bl _, _, h => by rw [Rp] at h ⊢; exact h
  | .int _, _, h => by rw [Rp] at h ⊢; exact h
  | .str _, _, h => by rw [Rp] at h ⊢; exact h
  | .ref _, _, h => by rw [Rp] at h ⊢; exact h
  | .tup ds, _, h => by
    rw [Rp] at h ⊢
    obtain ⟨a, vs, e, t, l⟩ := h
    exact ⟨a, vs, e, k.tupAt t, Keep.rpl k ds vs l⟩
  | .lst ds, _, h => by
    rw [Rp] at h ⊢
    obtain ⟨a, vs, e, t, l⟩ := h
    exact ⟨a, vs, e, k.lstAt t, Keep.rpl k ds vs l⟩
theorem Keep.rpl (k : Keep O O' H H') : ∀ (ds : List D) (vs : List V), RpL K O H ds vs → RpL K O' H' ds vs
  | [], _, h => by rw [RpL] at h ⊢; exact h
  | d :: ds, _, h => by
    rw [RpL] at h ⊢
    obtain ⟨v, r, e, t, l⟩ := h
    exact ⟨v, r, e, Keep.rp k d v t, Keep.rpl k ds r l⟩
end
theorem keep_same (s : Same H H') : Keep O O H H' := ⟨fun b o h _ => s b o h, fun _ _ h => h⟩
theorem liv_same (s : Same H H') {b : Addr} (h : ∃ o, H b = some o ∧ NT o) : ∃ o, H' b = some o ∧ NT o := by
  obtain ⟨o, e, n⟩ := h
  exact ⟨o, s _ _ e, n⟩
theorem same_rp (s : Same H H') (h : Rp K O H d v) : Rp K O H' d v := (keep_same s).rp _ _ h
theorem same_rpl (s : Same H H') (h : RpL K O H ds vs) : RpL K O H' ds vs := (keep_same s).rpl _ _ h

theorem TupAt.sq (h : TupAt K O H a vs) : SqT K H a vs := by
  rcases h with ⟨h, _⟩ | h
  · exact .inl h
  · rcases h with h | h
    · rcases h with h | ⟨o, h⟩
      · exact nomatch h
      · exact nomatch h
    · exact .inr h
theorem LstAt.sq (h : LstAt O H a vs) : SqL K H a vs := .inl h.1

theorem RpL.nil : RpL K O H [] [] := by rw [RpL]
theorem RpL.cons (h : Rp K O H d v) (r : RpL K O H ds vs) : RpL K O H (d :: ds) (v :: vs) := by
  rw [RpL]
  exact ⟨v, vs, rfl, h, r⟩
theorem RpL.cons_iff : RpL K O H (d :: ds) (v :: vs) ↔ Rp K O H d v ∧ RpL K O H ds vs := by
  rw [RpL]
  constructor
  · rintro ⟨_, _, e, h1, h2⟩
    cases e
    exact ⟨h1, h2⟩
  · rintro ⟨h1, h2⟩
    exact ⟨v, vs, rfl, h1, h2⟩
/-- both as one list of pairs -/
theorem RpL.zip : ∀ {ds : List D} {vs : List V}, RpL K O H ds vs → ∃ ps : List (D × V), ds = ps.map (·.1) ∧ vs = ps.map (·.2) ∧ ∀ p ∈ ps, Rp K O H p.1 p.2
  | [], _, h => by
    rw [RpL] at h
    subst h
    exact ⟨[], rfl, rfl, fun _ z => nomatch z⟩
  | d :: ds, _, h => by
    rw [RpL] at h
    obtain ⟨v, r, rfl, t, l⟩ := h
    obtain ⟨ps, e1, e2, q⟩ := RpL.zip l
    refine ⟨(d, v) :: ps, by rw [e1]; rfl, by rw [e2]; rfl, fun p hp => ?_⟩
    rcases List.mem_cons.mp hp with rfl | hp
    · exact t
    · exact q p hp
theorem RpL.of : ∀ {ps : List (D × V)}, (∀ p ∈ ps, Rp K O H p.1 p.2) → RpL K O H (ps.map (·.1)) (ps.map (·.2))
  | [], _ => RpL.nil
  | p :: ps, h => RpL.cons (h p List.mem_cons_self) (RpL.of fun q hq => h q (List.mem_cons_of_mem _ hq))
theorem RpL.length (h : RpL K O H ds vs) : ds.length = vs.length := by
  obtain ⟨ps, rfl, rfl, _⟩ := h.zip
  rw [List.length_map, List.length_map]
theorem RpL.get {i : Nat} (h : RpL K O H ds vs) (e : ds[i]? = some d) : ∃ v, vs[i]? = some v ∧ Rp K O H d v := by
  obtain ⟨ps, rfl, rfl, q⟩ := h.zip
  rw [List.getElem?_map] at e ⊢
  cases hp : ps[i]? with
  | none =>
    rw [hp] at e
    exact nomatch e
  | some p =>
    rw [hp] at e
    cases e
    exact ⟨p.2, rfl, q p (List.mem_of_getElem? hp)⟩
theorem RpL.append (h : RpL K O H ds vs) (h2 : RpL K O H es ws) : RpL K O H (ds ++ es) (vs ++ ws) := by
  obtain ⟨ps, rfl, rfl, q⟩ := h.zip
  obtain ⟨qs, rfl, rfl, q2⟩ := h2.zip
  rw [← List.map_append, ← List.map_append]
  refine RpL.of fun p hp => ?_
  rcases List.mem_append.mp hp with z | z
  · exact q p z
  · exact q2 p z
/-- a natural rearrangement -/
theorem RpL.nat (F : {α : Type} → List α → List α) (hm : ∀ {α β : Type} (f : α → β) (l : List α), F (l.map f) = (F l).map f) (hs : ∀ {α : Type} (l : List α) (x : α), x ∈ F l → x ∈ l)
    (h : RpL K O H ds vs) : RpL K O H (F ds) (F vs) := by
  obtain ⟨ps, rfl, rfl, q⟩ := h.zip
  rw [hm, hm]
  exact RpL.of fun p hp => q p (hs ps p hp)
theorem RpL.cut (lo hi : Option Int) (h : RpL K O H ds vs) : RpL K O H (cutL ds lo hi) (cutL vs lo hi) :=
  h.nat (fun l => cutL l lo hi) (fun f l => by simp [cutL, List.map_drop, List.map_take]) (fun l x hx => List.mem_of_mem_drop (List.mem_of_mem_take hx))
theorem mem_evens {α : Type} : ∀ (l : List α) (x : α), x ∈ evens l → x ∈ l
  | [], _, h => by simp [evens] at h
  | [y], _, h => by simpa [evens] using h
  | y :: z :: r, x, h => by
    rw [evens] at h
    rcases List.mem_cons.mp h with rfl | h
    · exact List.mem_cons_self
    · exact List.mem_cons_of_mem _ (List.mem_cons_of_mem _ (mem_evens r x h))
theorem map_evens {α β : Type} (f : α → β) : ∀ l : List α, evens (l.map f) = (evens l).map f
  | [] => rfl
  | [_] => rfl
  | x :: y :: r => by
    show f x :: evens (r.map f) = f x :: (evens r).map f
    rw [map_evens f r]
theorem RpL.stp (k : Stp) (h : RpL K O H ds vs) : RpL K O H (stpL k ds) (stpL k vs) := by
  cases k with
  | rev => exact h.nat (fun l => l.reverse) (fun f l => by simp) (fun l x hx => by simpa using hx)
  | even => exact h.nat (fun l => evens l) (fun f l => map_evens f l) (fun l x hx => mem_evens l x hx)
  | odd => exact h.nat (fun l => evens l.tail) (fun f l => by rw [← List.map_tail, map_evens]) (fun l x hx => List.mem_of_mem_tail (mem_evens _ x hx))
theorem RpL.rep (k : Int) (h : RpL K O H ds vs) : RpL K O H (rep ds k) (rep vs k) :=
  h.nat (fun l => LC.rep l k) (fun f l => by simp [LC.rep, List.map_flatten]) (fun l x hx => by
    simp only [LC.rep, List.mem_flatten, List.mem_replicate] at hx
    obtain ⟨m, ⟨_, rfl⟩, hx⟩ := hx
    exact hx)
theorem RpL.set (j : Nat) (h : RpL K O H ds vs) (hd : Rp K O H d v) : RpL K O H (ds.set j d) (vs.set j v) := by
  obtain ⟨ps, rfl, rfl, q⟩ := h.zip
  have e1 : (ps.map (·.1)).set j d = (ps.set j (d, v)).map (·.1) := by rw [List.map_set]
  have e2 : (ps.map (·.2)).set j v = (ps.set j (d, v)).map (·.2) := by rw [List.map_set]
  rw [e1, e2]
  refine RpL.of fun p hp => ?_
  rcases List.mem_or_eq_of_mem_set hp with z | z
  · exact q p z
  · subst z
    exact hd
theorem RpL.mem (h : RpL K O H ds vs) (hv : v ∈ vs) : ∃ d ∈ ds, Rp K O H d v := by
  obtain ⟨ps, rfl, rfl, q⟩ := h.zip
  obtain ⟨p, hp, rfl⟩ := List.mem_map.mp hv
  exact ⟨p.1, List.mem_map.mpr ⟨p, hp, rfl⟩, q p hp⟩

/-- .. or the root is a list that is one's own -/
def RpW (K : PySem.W.Frag) (O : Addr → Prop) (H : Hp) (d : D) (v : V) : Prop := Rp K O H d v ∨ ∃ a vs ds, d = .lst ds ∧ v = .ref a ∧ H a = some (.lst vs) ∧ RpL K O H ds vs
theorem Rp.w (h : Rp K O H d v) : RpW K O H d v := .inl h
theorem same_rpw (s : Same H H') (h : RpW K O H d v) : RpW K O H' d v := by
  rcases h with h | ⟨a, vs, ds, e1, e2, h, r⟩
  · exact .inl (same_rp s h)
  · exact .inr ⟨a, vs, ds, e1, e2, s _ _ h, same_rpl s r⟩
theorem RpW.lst (h : RpW K O H (.lst ds) v) : ∃ a vs, v = .ref a ∧ Rd H a (.lst vs) ∧ RpL K O H ds vs := by
  rcases h with h | ⟨a, vs, es, e1, e2, h, r⟩
  · rw [Rp] at h
    obtain ⟨a, vs, e, l, r⟩ := h
    exact ⟨a, vs, e, l.1, r⟩
  · cases e1
    exact ⟨a, vs, e2, .inl h, r⟩
theorem RpW.tup (h : RpW K O H (.tup ds) v) : ∃ a vs, v = .ref a ∧ TupAt K O H a vs ∧ RpL K O H ds vs := by
  rcases h with h | ⟨a, vs, es, e1, e2, h, r⟩
  · rw [Rp] at h
    exact h
  · cases e1
theorem RpW.int {i : Int} (h : RpW K O H (.int i) v) : v = .int i := by
  rcases h with h | ⟨_, _, _, e1, _⟩
  · rw [Rp] at h
    exact h
  · cases e1
theorem RpW.bl {i : Bool} (h : RpW K O H (.bl i) v) : v = .bl i := by
  rcases h with h | ⟨_, _, _, e1, _⟩
  · rw [Rp] at h
    exact h
  · cases e1
theorem RpW.str {i : Str} (h : RpW K O H (.str i) v) : v = .str i := by
  rcases h with h | ⟨_, _, _, e1, _⟩
  · rw [Rp] at h
    exact h
  · cases e1
theorem RpW.non (h : RpW K O H .non v) : v = .non := by
  rcases h with h | ⟨_, _, _, e1, _⟩
  · rw [Rp] at h
    exact h
  · cases e1
def RpWL (K : PySem.W.Frag) (O : Addr → Prop) (H : Hp) : List D → List V → Prop
  | [], vs => vs = []
  | d :: ds, vs => ∃ v r, vs = v :: r ∧ RpW K O H d v ∧ RpWL K O H ds r
theorem same_rpwl (s : Same H H') : ∀ {ds : List D} {vs : List V}, RpWL K O H ds vs → RpWL K O H' ds vs
  | [], _, h => h
  | d :: ds, _, h => by
    obtain ⟨v, r, e, t, l⟩ := h
    exact ⟨v, r, e, same_rpw s t, same_rpwl s l⟩
theorem RpL.w : ∀ {ds : List D} {vs : List V}, RpL K O H ds vs → RpWL K O H ds vs
  | [], _, h => by
    rw [RpL] at h
    exact h
  | d :: ds, _, h => by
    rw [RpL] at h
    obtain ⟨v, r, e, t, l⟩ := h
    exact ⟨v, r, e, .inl t, l.w⟩
theorem same_new {p : Addr} {o : HO} (h : H p = none) : Same H (upd H p o) := fun b x e => by
  rw [upd_ne (ne_of_none e h)]
  exact e
theorem rp_tup {p : Addr} (hp : H p = some (.tup vs)) (hO : ¬ O p) (r : RpL K O H ds vs) : Rp K O H (.tup ds) (.ref p) := by
  rw [Rp]
  exact ⟨p, vs, rfl, .inl ⟨.inl hp, hO⟩, r⟩
theorem rp_lst {p : Addr} (hp : H p = some (.lst vs)) (hO : ¬ O p) (r : RpL K O H ds vs) : Rp K O H (.lst ds) (.ref p) := by
  rw [Rp]
  exact ⟨p, vs, rfl, ⟨.inl hp, hO⟩, r⟩
theorem new_tup {p : Addr} (hp : H p = none) (hO : ∀ b, O b → H b ≠ none) (r : RpL K O H ds vs) : Rp K O (upd H p (.tup vs)) (.tup ds) (.ref p) :=
  rp_tup upd_same (fun z => hO p z hp) (same_rpl (same_new hp) r)
theorem new_lst {p : Addr} (hp : H p = none) (hO : ∀ b, O b → H b ≠ none) (r : RpL K O H ds vs) : Rp K O (upd H p (.lst vs)) (.lst ds) (.ref p) :=
  rp_lst upd_same (fun z => hO p z hp) (same_rpl (same_new hp) r)
/-! data in HandS's sense -/
mutual
theorem rp_dp : ∀ (d : D) (v : V), Rp K O H d v → PyData.canLay0 (toPy d) = true → Dp K H v (toPy d)
  | .non, _, h, _ => by rw [Rp] at h; subst h; rw [toPy]; exact .non
  | .bl _, _, h, _ => by rw [Rp] at h; subst h; rw [toPy]; exact .bl _
  | .int _, _, h, _ => by rw [Rp] at h; subst h; rw [toPy]; exact .int _
  | .str _, _, h, _ => by rw [Rp] at h; subst h; rw [toPy]; exact .str _
  | .ref _, _, h, hs => by simp [toPy, PyData.canLay0] at hs
  | .tup ds, _, h, hs => by
    rw [Rp] at h
    obtain ⟨a, vs, rfl, t, l⟩ := h
    rw [toPy, PyData.canLay0] at hs
    rw [toPy]
    exact .tup t.sq (rpl_dp ds vs l hs)
  | .lst ds, _, h, hs => by
    rw [Rp] at h
    obtain ⟨a, vs, rfl, t, l⟩ := h
    rw [toPy, PyData.canLay0] at hs
    rw [toPy]
    exact .lst t.sq (rpl_dp ds vs l hs)
theorem rpl_dp : ∀ (ds : List D) (vs : List V), RpL K O H ds vs → PyData.canLayAll0 (toPys ds) = true → DpAll K H vs (toPys ds)
  | [], _, h, _ => by
    rw [RpL] at h
    subst h
    rw [toPys]
    exact .nil
  | d :: ds, _, h, hs => by
    rw [RpL] at h
    obtain ⟨v, r, rfl, t, l⟩ := h
    rw [toPys, PyData.canLayAll0, Bool.and_eq_true] at hs
    rw [toPys]
    exact .cons (rp_dp d v t hs.1) (rpl_dp ds r l hs.2)
end
theorem RpW.dp (h : RpW K O H d v) (hs : SeqAt.shaped (toPy d) = true) : Dp K H v (toPy d) := by
  have hc := SeqAt.canLay_of_shaped hs
  rcases h with h | ⟨a, vs, ds, rfl, rfl, h, r⟩
  · exact rp_dp d v h hc
  · rw [toPy, PyData.canLay0] at hc
    rw [toPy]
    exact .lst (.inl (.inl h)) (rpl_dp ds vs r hc)
end
end LC

set_option Elab.async false
set_option linter.all false
set_option maxRecDepth 100000
set_option maxHeartbeats 1000000
/-! LC: operators -/
namespace LC
open PySem PySem.Spec PyProof.Rows L2

theorem lim_line {n : Nat} (h : n ≤ LIM) : n ≤ sizeLine := Nat.le_trans h (by decide)
theorem lim_lt {n : Nat} (h : n < LIM) : n < sizeLine := Nat.lt_of_lt_of_le h (by decide)

section
variable {X : Cx}
theorem rd_obj {pins : List (Addr × Obj)} {σ : L2.St} {H : Hp} {s : Shared} {a : Addr} {xs : List V} (I : Inv X pins σ H s) (h : Rd H a (.lst xs)) :
    xs.length ≤ sizeLine ∧ ∃ (its : List Value) (n : Nat), Vals xs its ∧ s.heap.get? a = some { cls := .type "list", data := .seq its.toArray n } := h.ok I.hok
/-- list + list -/
theorem op_catR : OpR X (binaryOp .Add) (fun x y H Q => ∃ l b xs zs, x = .ref l ∧ y = .ref b ∧ Rd H l (.lst xs) ∧ Rd H b (.lst zs) ∧ xs.length + zs.length ≤ sizeLine ∧ ∀ p, H p = none → Q (.ref p) (upd H p (.lst (xs ++ zs)))) := by
  intro pins s σ H x y v u Q I rx ry h
  obtain ⟨l, b, xs, zs, rfl, rfl, h1, h2, hz, q⟩ := h
  cases rx
  cases ry
  obtain ⟨_, is1, n1, r1, e1⟩ := rd_obj I h1
  obtain ⟨_, is2, n2, r2, e2⟩ := rd_obj I h2
  have l1 := r1.length
  have l2 := r2.length
  refine PySem.P.add_list e1 e2 ?_ (by rw [List.size_toArray, List.size_toArray]; omega)
  rw [show is1.toArray ++ is2.toArray = (is1 ++ is2).toArray by simp]
  exact ⟨.ref _, _, I.lnew (t' := s.toks) (r1.append r2) (by rw [List.length_append]; exact hz), rfl, q _ I.fresh⟩
end

/-! truth values among numbers -/
theorem int_mod_bi (a : Bool) (b : Int) (u : Tok) (hc0 : ¬(b == 0) = true) :
    Gives (Builtin.«int.__mod__» ⟨[.bool a, .int b u], []⟩) (.int ((if a = true then (1 : Int) else 0).fmod b)) :=
  .of_wp fun M A E s Q h => by obtain ⟨hp, g, d, tk, os⟩ := s; wp_walk; exact ⟨_, rfl, h⟩
theorem mod_bool_int {prog : Program} {w : World} {A : Around} {E : Value → Shared → Prop} {s : Shared} {Q : Value → Shared → Prop} {a : Bool} {b : Int} {u : Tok} (hb : ¬(b == 0) = true) (h : Q (.int ((if a = true then (1 : Int) else 0).fmod b) s.toks) { s with toks := s.toks + 1 }) : wpAny (model prog w) A (binaryOp .Mod (.bool a) (.int b u)) Q E s :=
  binaryOp_left_gives (op := .Mod) (T := "bool") (U := "int") (by decide) rfl (fun s' => typeIs_int s' b u) F.fills_bool_mod F.fills_int_mod F.sub_int_bool F.slot_bool_mod F.slot_int_rmod F.entry_int_mod (F.args_int_mod_2 _ _)
    (int_mod_bi a b u hb) trivial h
section
variable {X : Cx}
theorem op_addBI : OpR X (binaryOp .Add) (fun x y H Q => ∃ k i, x = .bl k ∧ y = .int i ∧ Q (.int ((if k = true then (1 : Int) else 0) + i)) H) := by
  intro pins s σ H x y v u Q I rx ry h
  obtain ⟨k, i, rfl, rfl, q⟩ := h
  obtain ⟨t, rfl⟩ := ry
  cases rx
  exact IntBool.add_bool_int ⟨.int _, H, I.tok _, ⟨_, rfl⟩, q⟩
theorem op_subBI : OpR X (binaryOp .Sub) (fun x y H Q => ∃ k i, x = .bl k ∧ y = .int i ∧ Q (.int ((if k = true then (1 : Int) else 0) - i)) H) := by
  intro pins s σ H x y v u Q I rx ry h
  obtain ⟨k, i, rfl, rfl, q⟩ := h
  obtain ⟨t, rfl⟩ := ry
  cases rx
  exact IntBool.sub_bool_int ⟨.int _, H, I.tok _, ⟨_, rfl⟩, q⟩
theorem op_subIB : OpR X (binaryOp .Sub) (fun x y H Q => ∃ i k, x = .int i ∧ y = .bl k ∧ Q (.int (i - if k = true then (1 : Int) else 0)) H) := by
  intro pins s σ H x y v u Q I rx ry h
  obtain ⟨k, i, rfl, rfl, q⟩ := h
  obtain ⟨t, rfl⟩ := rx
  cases ry
  exact IntBool.sub_int_bool ⟨.int _, H, I.tok _, ⟨_, rfl⟩, q⟩
theorem op_modBI : OpR X (binaryOp .Mod) (fun x y H Q => ∃ k i, x = .bl k ∧ y = .int i ∧ 0 < i ∧ Q (.int ((if k = true then (1 : Int) else 0) % i)) H) := by
  intro pins s σ H x y v u Q I rx ry h
  obtain ⟨k, i, rfl, rfl, hi, q⟩ := h
  obtain ⟨t, rfl⟩ := ry
  cases rx
  refine mod_bool_int (by intro z; have := eq_of_beq z; omega) ?_
  rw [Int.fmod_eq_emod_of_nonneg _ (by omega)]
  exact ⟨.int _, H, I.tok _, ⟨_, rfl⟩, q⟩
end
/-- an operation on values that does what f says -/
def OpS (K : PySem.W.Frag) (r : R2) (f : D → D → R D) : Prop :=
  ∀ (O : Addr → Prop) (H : Hp) (x y d : D) (v w : V) (Q : VK), (∀ b, O b → H b ≠ none) → RpW K O H x v → RpW K O H y w → f x y = .ok d → (∀ u H', Same H H' → Rp K O H' d u → Q u H') → r v w H Q
def Opp (X : Cx) (o : Value → Value → Sem Value) (f : D → D → R D) : Prop := ∃ r, OpR X o r ∧ OpS X.K r f

theorem R.ok_inj {α : Type} {a b : α} (h : R.ok a = R.ok b) : a = b := by cases h; rfl
theorem ok_ite {α : Type} {c : Prop} [Decidable c] {a b : α} (h : (if c then R.ok a else R.bad) = R.ok b) : c ∧ a = b := by
  by_cases hc : c
  · rw [if_pos hc] at h
    exact ⟨hc, R.ok_inj h⟩
  · rw [if_neg hc] at h
    exact nomatch h
theorem bind_ok {α β : Type} {a : R α} {f : α → R β} {b : β} (h : a.bind f = .ok b) : ∃ x, a = .ok x ∧ f x = .ok b := by
  cases a with
  | ok x => exact ⟨x, rfl, h⟩
  | exc c => exact nomatch h
  | bad => exact nomatch h

section
variable {K : PySem.W.Frag} {O : Addr → Prop} {H : Hp}
theorem rp_int {i : Int} : Rp K O H (.int i) (.int i) := by rw [Rp]
theorem rp_bl {i : Bool} : Rp K O H (.bl i) (.bl i) := by rw [Rp]
theorem rp_str {i : Str} : Rp K O H (.str i) (.str i) := by rw [Rp]
theorem rp_non : Rp K O H .non .non := by rw [Rp]
end

section
variable {X : Cx}
theorem opp_add : Opp X (binaryOp .Add) dAdd := by
  refine ⟨_, op_add.or (op_add_str.or (op_catA.or (op_catR.or op_addBI))), ?_⟩
  intro O H x y d v w Q hO hx hy he q
  unfold dAdd at he
  split at he
  · cases hx.int
    cases hy.int
    cases R.ok_inj he
    exact .inl ⟨_, _, rfl, rfl, q _ H (Same.refl H) rp_int⟩
  · cases hx.str
    cases hy.str
    obtain ⟨hl, e⟩ := ok_ite he
    cases e
    exact .inr (.inl ⟨_, _, rfl, rfl, lim_line hl, q _ H (Same.refl H) rp_str⟩)
  · obtain ⟨a, vs, rfl, ta, ra⟩ := hx.tup
    obtain ⟨b, ws, rfl, tb, rb⟩ := hy.tup
    obtain ⟨hl, e⟩ := ok_ite he
    cases e
    have l1 := ra.length
    have l2 := rb.length
    refine .inr (.inr (.inl ⟨a, b, vs, ws, rfl, rfl, ta.sq, tb.sq, by rw [← l1, ← l2]; exact lim_line hl, fun z => ?_, fun _ z => ?_, fun _ _ p hp => ?_⟩))
    · refine q _ H (Same.refl H) ?_
      have e0 := List.eq_nil_of_length_eq_zero (l1.trans (by rw [z]; rfl))
      rw [e0, List.nil_append, Rp]
      exact ⟨b, ws, rfl, tb, rb⟩
    · refine q _ H (Same.refl H) ?_
      have e0 := List.eq_nil_of_length_eq_zero (l2.trans (by rw [z]; rfl))
      rw [e0, List.append_nil, Rp]
      exact ⟨a, vs, rfl, ta, ra⟩
    · exact q _ _ (same_new hp) (new_tup hp hO (ra.append rb))
  · obtain ⟨a, vs, rfl, ta, ra⟩ := hx.lst
    obtain ⟨b, ws, rfl, tb, rb⟩ := hy.lst
    obtain ⟨hl, e⟩ := ok_ite he
    cases e
    exact .inr (.inr (.inr (.inl ⟨a, b, vs, ws, rfl, rfl, ta, tb, by rw [← ra.length, ← rb.length]; exact lim_line hl, fun p hp => q _ _ (same_new hp) (new_lst hp hO (ra.append rb))⟩)))
  · cases hx.bl
    cases hy.int
    cases R.ok_inj he
    exact .inr (.inr (.inr (.inr ⟨_, _, rfl, rfl, q _ H (Same.refl H) rp_int⟩)))
  · exact nomatch he
theorem opp_sub : Opp X (binaryOp .Sub) dSub := by
  refine ⟨_, op_sub.or (op_subBI.or op_subIB), ?_⟩
  intro O H x y d v w Q hO hx hy he q
  unfold dSub at he
  split at he
  · cases hx.int
    cases hy.int
    cases R.ok_inj he
    exact .inl ⟨_, _, rfl, rfl, q _ H (Same.refl H) rp_int⟩
  · cases hx.bl
    cases hy.int
    cases R.ok_inj he
    exact .inr (.inl ⟨_, _, rfl, rfl, q _ H (Same.refl H) rp_int⟩)
  · cases hx.int
    cases hy.bl
    cases R.ok_inj he
    exact .inr (.inr ⟨_, _, rfl, rfl, q _ H (Same.refl H) rp_int⟩)
  · exact nomatch he
theorem small64_iff {i : Int} (h : small64 i = true) : -(2 ^ 64) < i ∧ i < 2 ^ 64 := by
  unfold small64 at h
  rw [Bool.and_eq_true] at h
  exact ⟨of_decide_eq_true h.1, of_decide_eq_true h.2⟩
theorem opp_div : Opp X (binaryOp .FloorDiv) dDiv := by
  refine ⟨_, op_fdiv, ?_⟩
  intro O H x y d v w Q hO hx hy he q
  unfold dDiv at he
  split at he
  · cases hx.int
    cases hy.int
    obtain ⟨hl, e⟩ := ok_ite he
    cases e
    exact ⟨_, _, rfl, rfl, hl, q _ H (Same.refl H) rp_int⟩
  · exact nomatch he
theorem opp_mod : Opp X (binaryOp .Mod) dMod := by
  refine ⟨_, op_mod.or op_modBI, ?_⟩
  intro O H x y d v w Q hO hx hy he q
  unfold dMod at he
  split at he
  · cases hx.int
    cases hy.int
    obtain ⟨hl, e⟩ := ok_ite he
    cases e
    exact .inl ⟨_, _, rfl, rfl, hl, q _ H (Same.refl H) rp_int⟩
  · cases hx.bl
    cases hy.int
    obtain ⟨hl, e⟩ := ok_ite he
    cases e
    exact .inr ⟨_, _, rfl, rfl, hl, q _ H (Same.refl H) rp_int⟩
  · exact nomatch he
theorem opp_pow : Opp X (binaryOp .Pow) dPow := by
  refine ⟨_, op_pow, ?_⟩
  intro O H x y d v w Q hO hx hy he q
  unfold dPow at he
  split at he
  · cases hx.int
    cases hy.int
    obtain ⟨⟨h1, h2, h3⟩, e⟩ := ok_ite he
    cases e
    have h4 := small64_iff h3
    exact ⟨_, _, rfl, rfl, ⟨h1, by omega, by omega⟩, q _ H (Same.refl H) rp_int⟩
  · exact nomatch he
/-! comparisons -/
theorem opp_ord {op : CmpOp} {p : Int → Int → Bool} (h : OpR X (compareOp op) (rI0 fun i j => .bl (p i j))) : Opp X (compareOp op) (dOrd p) := by
  refine ⟨_, h, ?_⟩
  intro O H x y d v w Q hO hx hy he q
  unfold dOrd at he
  split at he
  · cases hx.int
    cases hy.int
    cases R.ok_inj he
    exact ⟨_, _, rfl, rfl, q _ H (Same.refl H) rp_bl⟩
  · exact nomatch he
theorem rB_ok {a : R Bool} {d : D} (h : rB a = .ok d) : ∃ b, a = .ok b ∧ d = .bl b := by
  cases a with
  | ok b => exact ⟨b, rfl, (R.ok_inj h).symm⟩
  | exc c => exact nomatch h
  | bad => exact nomatch h
theorem rN_ok {a : R Bool} {d : D} (h : rN a = .ok d) : ∃ b, a = .ok b ∧ d = .bl (!b) := by
  cases a with
  | ok b => exact ⟨b, rfl, (R.ok_inj h).symm⟩
  | exc c => exact nomatch h
  | bad => exact nomatch h
theorem opp_eq (hu : X.A.units + 64 < cLine) : Opp X (compareOp .Eq) (dCmp .Eq) := by
  refine ⟨_, op_eqD hu, ?_⟩
  intro O H x y d v w Q hO hx hy he q
  obtain ⟨b, e1, rfl⟩ := rB_ok he
  obtain ⟨hs, e⟩ := ok_ite e1
  rw [Bool.and_eq_true] at hs
  cases e
  exact ⟨toPy x, toPy y, hx.dp hs.1, hy.dp hs.2, hs.1, hs.2, q _ H (Same.refl H) rp_bl⟩
theorem opp_ne (hu : X.A.units + 64 < cLine) : Opp X (compareOp .NotEq) (dCmp .NotEq) := by
  refine ⟨_, op_neD hu, ?_⟩
  intro O H x y d v w Q hO hx hy he q
  obtain ⟨b, e1, rfl⟩ := rN_ok he
  obtain ⟨hs, e⟩ := ok_ite e1
  rw [Bool.and_eq_true] at hs
  cases e
  exact ⟨toPy x, toPy y, hx.dp hs.1, hy.dp hs.2, hs.1, hs.2, q _ H (Same.refl H) rp_bl⟩
theorem rp_non_iff {K : PySem.W.Frag} {O : Addr → Prop} {H : Hp} {d : D} {v : V} (h : RpW K O H d v) : d = .non ∨ (d ≠ .non ∧ v ≠ .non) := by
  cases d with
  | non => exact .inl rfl
  | bl b => cases h.bl; exact .inr ⟨(fun z => nomatch z), (fun z => nomatch z)⟩
  | int b => cases h.int; exact .inr ⟨(fun z => nomatch z), (fun z => nomatch z)⟩
  | str b => cases h.str; exact .inr ⟨(fun z => nomatch z), (fun z => nomatch z)⟩
  | ref a =>
    refine .inr ⟨(fun z => nomatch z), fun z => ?_⟩
    rcases h with h | ⟨_, _, _, e, _⟩
    · rw [Rp] at h
      obtain ⟨b, h⟩ := h
      rw [h] at z
      exact nomatch z
    · exact nomatch e
  | tup ds => obtain ⟨a, _, rfl, _⟩ := h.tup; exact .inr ⟨(fun z => nomatch z), (fun z => nomatch z)⟩
  | lst ds => obtain ⟨a, _, rfl, _⟩ := h.lst; exact .inr ⟨(fun z => nomatch z), (fun z => nomatch z)⟩
theorem dIs_shape {x y : D} {b : Bool} (h : dIs x y = .ok b) : (y = .non ∧ ((x = .non ∧ b = true) ∨ (x ≠ .non ∧ b = false))) ∨ ∃ i j, x = .bl i ∧ y = .bl j ∧ b = decide (i = j) := by
  cases x <;> cases y <;> cases h <;> first
    | exact .inl ⟨rfl, .inl ⟨rfl, rfl⟩⟩
    | exact .inr ⟨_, _, rfl, rfl, rfl⟩
    | exact .inl ⟨rfl, .inr ⟨(fun z => by cases z), rfl⟩⟩
theorem opp_is : Opp X (compareOp .Is) (dCmp .Is) := by
  refine ⟨_, op_isN.or op_is_bl, ?_⟩
  intro O H x y d v w Q hO hx hy he q
  obtain ⟨b, e1, rfl⟩ := rB_ok he
  rcases dIs_shape e1 with ⟨rfl, h⟩ | ⟨i, j, rfl, rfl, rfl⟩
  · cases hy.non
    refine .inl ⟨rfl, ?_⟩
    rcases h with ⟨rfl, rfl⟩ | ⟨h1, rfl⟩
    · cases hx.non
      exact q _ H (Same.refl H) rp_bl
    · rcases rp_non_iff hx with z | z
      · exact absurd z h1
      · rw [decide_eq_false z.2]
        exact q _ H (Same.refl H) rp_bl
  · cases hx.bl
    cases hy.bl
    exact .inr ⟨i, j, rfl, rfl, q _ H (Same.refl H) rp_bl⟩
theorem opp_isnot : Opp X (compareOp .IsNot) (dCmp .IsNot) := by
  refine ⟨_, op_notN.or op_isnot_bl, ?_⟩
  intro O H x y d v w Q hO hx hy he q
  obtain ⟨b, e1, rfl⟩ := rN_ok he
  rcases dIs_shape e1 with ⟨rfl, h⟩ | ⟨i, j, rfl, rfl, rfl⟩
  · cases hy.non
    refine .inl ⟨rfl, ?_⟩
    rcases h with ⟨rfl, rfl⟩ | ⟨h1, rfl⟩
    · cases hx.non
      exact q _ H (Same.refl H) rp_bl
    · rcases rp_non_iff hx with z | z
      · exact absurd z h1
      · rw [decide_eq_false z.2]
        exact q _ H (Same.refl H) rp_bl
  · cases hx.bl
    cases hy.bl
    exact .inr ⟨i, j, rfl, rfl, q _ H (Same.refl H) rp_bl⟩
end
end LC

set_option Elab.async false
set_option linter.all false
set_option maxRecDepth 100000
set_option maxHeartbeats 1000000
/-! LC: the frame, readings of expressions -/
namespace LC
open PySem PySem.Spec PyProof.Rows L2

/-- what strong values keep away from: the callers' owned lists, and this frame's -/
def Av (O : Addr → Prop) (M : List Nat) (σ : L2.St) (b : Addr) : Prop := O b ∨ ∃ i ∈ M, σ[i]? = some (some (.ref b))

structure Ok (K : PySem.W.Frag) (O : Addr → Prop) (M : List Nat) (ρ : Rho) (σ : L2.St) (H : Hp) : Prop where
  o0 : ∀ b, O b → H b ≠ none
  len : σ.length = ρ.length
  non : ∀ i : Nat, ρ[i]? = some none → σ[i]? = some none
  val : ∀ (i : Nat) (d : D), ρ[i]? = some (some d) → i ∉ M → ∃ v, σ[i]? = some (some v) ∧ Rp K (Av O M σ) H d v
  own : ∀ (i : Nat) (d : D), ρ[i]? = some (some d) → i ∈ M → ∃ a vs ds, d = .lst ds ∧ σ[i]? = some (some (.ref a)) ∧ H a = some (.lst vs) ∧ ¬ O a ∧ RpL K (Av O M σ) H ds vs
  inj : ∀ (i j : Nat) (a : Addr), i ∈ M → j ∈ M → σ[i]? = some (some (.ref a)) → σ[j]? = some (some (.ref a)) → i = j

section
variable {K : PySem.W.Frag} {O : Addr → Prop} {H H' : Hp} {M : List Nat} {ρ : Rho} {σ : L2.St}
theorem not_none {α : Type} {o : Option α} {x : α} (h : o = some x) : o ≠ none := by rw [h]; exact fun z => nomatch z
theorem Ok.slot (h : Ok K O M ρ σ H) {i : Nat} {v : V} (e : σ[i]? = some (some v)) : ∃ d, ρ[i]? = some (some d) := by
  cases q : ρ[i]? with
  | none =>
    have l : ρ.length ≤ i := List.getElem?_eq_none_iff.mp q
    rw [List.getElem?_eq_none_iff.mpr (by rw [h.len]; exact l)] at e
    exact nomatch e
  | some x =>
    cases x with
    | none =>
      rw [h.non i q] at e
      exact nomatch e
    | some d => exact ⟨d, rfl⟩
theorem Ok.dom (h : Ok K O M ρ σ H) : ∀ b, Av O M σ b → H b ≠ none := fun b hb => by
  rcases hb with hb | ⟨i, hi, e⟩
  · exact h.o0 b hb
  · obtain ⟨d, hd⟩ := h.slot e
    obtain ⟨a, vs, ds, _, e2, ha, _⟩ := h.own i d hd hi
    rw [e] at e2
    cases e2
    exact not_none ha
theorem same_dom (s : Same H H') {b : Addr} (h : H b ≠ none) : H' b ≠ none := by
  cases q : H b with
  | none => exact absurd q h
  | some o => exact not_none (s b o q)
theorem Ok.ext (h : Ok K O M ρ σ H) (s : Same H H') : Ok K O M ρ σ H' := by
  refine ⟨fun b hb => same_dom s (h.o0 b hb), h.len, h.non, fun i d e n => ?_, fun i d e m => ?_, h.inj⟩
  · obtain ⟨v, e2, r⟩ := h.val i d e n
    exact ⟨v, e2, same_rp s r⟩
  · obtain ⟨a, vs, ds, e1, e2, ha, hg, r⟩ := h.own i d e m
    exact ⟨a, vs, ds, e1, e2, s _ _ ha, hg, same_rpl s r⟩
end

/-- readings of compact expressions: a strong value; a value whose root may be owned; lists of such; a test -/
def tE (c : Cf) (K : PySem.W.Frag) (M : List Nat) (e : E) : TE := fun σ H Q => ∃ O ρ d, Ok K O M ρ σ H ∧ ev c e ρ = .ok d ∧ ∀ v H', Same H H' → Rp K (Av O M σ) H' d v → Q v H'
def tW (c : Cf) (K : PySem.W.Frag) (M : List Nat) (e : E) : TE := fun σ H Q => ∃ O ρ d, Ok K O M ρ σ H ∧ ev c e ρ = .ok d ∧ ∀ v H', Same H H' → RpW K (Av O M σ) H' d v → Q v H'
def tEs (c : Cf) (K : PySem.W.Frag) (M : List Nat) (es : List E) : TA := fun σ H Q => ∃ O ρ ds, Ok K O M ρ σ H ∧ evs c es ρ = .ok ds ∧ ∀ vs H', Same H H' → RpL K (Av O M σ) H' ds vs → Q vs H'
def tWs (c : Cf) (K : PySem.W.Frag) (M : List Nat) (es : List E) : TA := fun σ H Q => ∃ O ρ ds, Ok K O M ρ σ H ∧ evs c es ρ = .ok ds ∧ ∀ vs H', Same H H' → RpWL K (Av O M σ) H' ds vs → Q vs H'
def tT (c : Cf) (K : PySem.W.Frag) (M : List Nat) (e : E) : TT := fun σ H Q => ∃ O ρ d b, Ok K O M ρ σ H ∧ ev c e ρ = .ok d ∧ truth d = some b ∧ ∀ H', Same H H' → Q b H'

section
variable {X : Cx} {e : Expr} {es : List Expr} {c : Cf} {M : List Nat}
theorem pe_imp {t t' : TE} (h : PE X e t) (q : ∀ σ H Q, t' σ H Q → t σ H Q) : PE X e t' := ⟨fun pins s σ H Q I w => h.run pins s σ H Q I (q σ H Q w)⟩
theorem pt_imp {t t' : TT} (h : PT X e t) (q : ∀ σ H Q, t' σ H Q → t σ H Q) : PT X e t' := ⟨fun pins s σ H Q I w => h.run pins s σ H Q I (q σ H Q w)⟩
theorem pw_imp {t t' : TT} (h : PW X e t) (q : ∀ σ H Q, t' σ H Q → t σ H Q) : PW X e t' := ⟨fun wh pins s σ H Q I w => h.run wh pins s σ H Q I (q σ H Q w)⟩
theorem pa_imp {t t' : TA} (h : PA X es t) (q : ∀ σ H Q, t' σ H Q → t σ H Q) : PA X es t' := ⟨fun pos pins s σ H Q I w => h.run pos pins s σ H Q I (q σ H Q w)⟩
theorem pe_weak {f : E} (h : PE X e (tE c X.K M f)) : PE X e (tW c X.K M f) := pe_imp h fun σ H Q ⟨O, ρ, d, o, ee, q⟩ => ⟨O, ρ, d, o, ee, fun v H' s r => q v H' s r.w⟩

theorem l_var {i : Nat} {x : Str} {pos : Pos} (hN : X.N[i]? = some x) (hv : Vis X.env.scope x) (hd : (x == ("__debug__" : Str)) = false) (hcd : (x == ("__classdict__" : Str)) = false) (hM : i ∉ M) :
    PE X (.Name x pos) (tE c X.K M (.var i)) := pe_imp (pe_var hN hv hd hcd) fun σ H Q ⟨O, ρ, d, o, ee, q⟩ => by
  rw [ev, get] at ee
  split at ee
  · rename_i d' hd'
    cases ee
    obtain ⟨v, e2, r⟩ := o.val i d hd' hM
    exact ⟨v, e2, q v H (Same.refl H) r⟩
  · exact nomatch ee
theorem l_varW {i : Nat} {x : Str} {pos : Pos} (hN : X.N[i]? = some x) (hv : Vis X.env.scope x) (hd : (x == ("__debug__" : Str)) = false) (hcd : (x == ("__classdict__" : Str)) = false) :
    PE X (.Name x pos) (tW c X.K M (.var i)) := by
  by_cases hM : i ∈ M
  · refine pe_imp (pe_var hN hv hd hcd) fun σ H Q ⟨O, ρ, d, o, ee, q⟩ => ?_
    rw [ev, get] at ee
    split at ee
    · rename_i d' hd'
      cases ee
      obtain ⟨a, vs, ds, e1, e2, ha, hg, r⟩ := o.own i d hd' hM
      exact ⟨.ref a, e2, q _ H (Same.refl H) (.inr ⟨a, vs, ds, e1, rfl, ha, r⟩)⟩
    · exact nomatch ee
  · exact pe_weak (l_var hN hv hd hcd hM)
theorem l_cst {t : V} {d : D} (h : PE X e (tC t)) (r : ∀ K O H, Rp K O H d t) : PE X e (tE c X.K M (.cst d)) := pe_imp h fun σ H Q ⟨O, ρ, d', o, ee, q⟩ => by
  rw [ev] at ee
  cases ee
  exact q t H (Same.refl H) (r _ _ _)
theorem l_glb {x : Str} {d : D} {t : V} (h : PE X e (tC t)) (hl : c.glb.lookup x = some d) (r : ∀ O H, Rp X.K O H d t) : PE X e (tE c X.K M (.glb x)) := pe_imp h fun σ H Q ⟨O, ρ, d', o, ee, q⟩ => by
  rw [ev, hl] at ee
  cases ee
  exact q t H (Same.refl H) (r _ _)

/-- two operands, then an operation on values -/
theorem l_op2 {a b f : E} {g : D → D → R D} {ta tb : TE} {r : R2} (hs : OpS X.K r g) (he : ∀ ρ, ev c f ρ = (ev c a ρ).bind fun x => (ev c b ρ).bind fun y => g x y)
    {ea : Expr} (h : PE X ea (tOp r (tW c X.K M a) (tW c X.K M b))) : PE X ea (tE c X.K M f) := pe_imp h fun σ H Q ⟨O, ρ, d, o, ee, q⟩ => by
  rw [he] at ee
  obtain ⟨x, e1, ee⟩ := bind_ok ee
  obtain ⟨y, e2, ee⟩ := bind_ok ee
  refine ⟨O, ρ, x, o, e1, fun v H1 s1 r1 => ⟨O, ρ, y, o.ext s1, e2, fun w H2 s2 r2 => ?_⟩⟩
  exact hs _ H2 x y d v w Q ((o.ext s1).ext s2).dom (same_rpw s2 r1) r2 ee fun u H3 s3 r3 => q u H3 ((s1.trans s2).trans s3) r3
theorem l_bin {op : Operator} {a b : Expr} {a' b' : E} {pos : Pos} (ho : Opp X (binaryOp op) (dBin op)) (ha : PE X a (tW c X.K M a')) (hb : PE X b (tW c X.K M b')) : PE X (.BinOp a op b pos) (tE c X.K M (.bin op a' b')) := by
  obtain ⟨r, h1, h2⟩ := ho
  exact l_op2 (ta := tW c X.K M a') (tb := tW c X.K M b') h2 (fun ρ => by rw [ev]) (pe_op h1 ha hb)
theorem l_cmp {op : CmpOp} {a b : Expr} {a' b' : E} {pos : Pos} (ho : Opp X (compareOp op) (dCmp op)) (ha : PE X a (tW c X.K M a')) (hb : PE X b (tW c X.K M b')) (hm : behindInMarks op b = false) : PE X (.Compare a [op] [b] pos) (tE c X.K M (.cmp op a' b')) := by
  obtain ⟨r, h1, h2⟩ := ho
  exact l_op2 (ta := tW c X.K M a') (tb := tW c X.K M b') h2 (fun ρ => by rw [ev]) (pe_cmpR h1 ha hb hm)
theorem l_neg {a : Expr} {a' : E} {pos : Pos} (ha : PE X a (tW c X.K M a')) : PE X (.UnaryOp .USub a pos) (tE c X.K M (.neg a')) := pe_imp (pe_un un_neg ha) fun σ H Q ⟨O, ρ, d, o, ee, q⟩ => by
  rw [ev] at ee
  obtain ⟨x, e1, ee⟩ := bind_ok ee
  refine ⟨O, ρ, x, o, e1, fun v H1 s1 r1 => ?_⟩
  split at ee
  · cases r1.int
    cases ee
    exact ⟨_, rfl, q _ H1 s1 rp_int⟩
  · exact nomatch ee
theorem l_not {a : Expr} {a' : E} {pos : Pos} (ha : PE X a (tW c X.K M a')) : PE X (.UnaryOp .Not a pos) (tE c X.K M (.not a')) := pe_imp (pe_not ha) fun σ H Q ⟨O, ρ, d, o, ee, q⟩ => by
  rw [ev] at ee
  obtain ⟨x, e1, ee⟩ := bind_ok ee
  refine ⟨O, ρ, x, o, e1, fun v H1 s1 r1 => ?_⟩
  split at ee
  · cases r1.bl
    cases ee
    exact ⟨_, rfl, q _ H1 s1 rp_bl⟩
  · exact nomatch ee
theorem l_and {a b : Expr} {rest : List Expr} {a' b' : E} {pos : Pos} (ha : PE X a (tW c X.K M a')) (hb : PE X (.BoolOp .And (b :: rest) pos) (tE c X.K M b')) : PE X (.BoolOp .And (a :: b :: rest) pos) (tE c X.K M (.and a' b')) := pe_imp (pe_and ha hb) fun σ H Q ⟨O, ρ, d, o, ee, q⟩ => by
  rw [ev] at ee
  obtain ⟨x, e1, ee⟩ := bind_ok ee
  refine ⟨O, ρ, x, o, e1, fun v H1 s1 r1 => ?_⟩
  split at ee
  · cases r1.bl
    exact ⟨_, rfl, iteT ⟨O, ρ, d, o.ext s1, ee, fun v H2 s2 r2 => q v H2 (s1.trans s2) r2⟩⟩
  · cases r1.bl
    cases ee
    exact ⟨_, rfl, iteF (q _ H1 s1 rp_bl)⟩
  · exact nomatch ee
theorem l_or {a b : Expr} {rest : List Expr} {a' b' : E} {pos : Pos} (ha : PE X a (tW c X.K M a')) (hb : PE X (.BoolOp .Or (b :: rest) pos) (tE c X.K M b')) : PE X (.BoolOp .Or (a :: b :: rest) pos) (tE c X.K M (.or a' b')) := pe_imp (pe_or ha hb) fun σ H Q ⟨O, ρ, d, o, ee, q⟩ => by
  rw [ev] at ee
  obtain ⟨x, e1, ee⟩ := bind_ok ee
  refine ⟨O, ρ, x, o, e1, fun v H1 s1 r1 => ?_⟩
  split at ee
  · cases r1.bl
    cases ee
    exact ⟨_, rfl, iteT (q _ H1 s1 rp_bl)⟩
  · cases r1.bl
    exact ⟨_, rfl, iteF ⟨O, ρ, d, o.ext s1, ee, fun v H2 s2 r2 => q v H2 (s1.trans s2) r2⟩⟩
  · exact nomatch ee
theorem l_chn {op op' : CmpOp} {a b e3 : Expr} {a' b' f : E} {pos : Pos} (ho : Opp X (compareOp op) (dCmp op)) (ho' : Opp X (compareOp op') (dCmp op')) (ha : PE X a (tW c X.K M a')) (hb : PE X b (tW c X.K M b')) (hc : PE X e3 (tW c X.K M f)) (hm : behindInMarks op' e3 = false) :
    PE X (.Compare a [op, op'] [b, e3] pos) (tE c X.K M (.chn op op' a' b' f)) := by
  obtain ⟨r, h1, h2⟩ := ho
  obtain ⟨r', h1', h2'⟩ := ho'
  refine pe_imp (pe_chain h1 h1' ha hb hc (by simp [lastMarks, hm])) fun σ H Q ⟨O, ρ, d, o, ee, q⟩ => ?_
  rw [ev] at ee
  obtain ⟨x, e1, ee⟩ := bind_ok ee
  obtain ⟨y, e2, ee⟩ := bind_ok ee
  obtain ⟨z, e3, ee⟩ := bind_ok ee
  refine ⟨O, ρ, x, o, e1, fun v H1 s1 r1 => ⟨O, ρ, y, o.ext s1, e2, fun w H2 s2 r2 => ?_⟩⟩
  refine h2 _ H2 x y z v w _ ((o.ext s1).ext s2).dom (same_rpw s2 r1) r2 e3 fun u H3 s3 r3 => ?_
  split at ee
  · cases r3.w.bl
    refine ⟨_, rfl, iteT ⟨O, ρ, ?_⟩⟩
    obtain ⟨w4, e4, ee⟩ := bind_ok ee
    refine ⟨w4, ((o.ext s1).ext s2).ext s3, e4, fun u4 H4 s4 r4 => ?_⟩
    exact h2' _ H4 y w4 d w u4 Q (((o.ext s1).ext s2).ext (s3.trans s4)).dom (same_rpw (s3.trans s4) r2) r4 ee fun u5 H5 s5 r5 => q u5 H5 ((s1.trans s2).trans ((s3.trans s4).trans s5)) r5
  · cases r3.w.bl
    cases ee
    exact ⟨_, rfl, iteF (q _ H3 ((s1.trans s2).trans s3) rp_bl)⟩
  · exact nomatch ee
/-! argument lists -/
theorem l_nil : PA X [] (tEs c X.K M []) := pa_imp pa_nil fun σ H Q ⟨O, ρ, ds, o, ee, q⟩ => by
  rw [evs] at ee
  cases ee
  exact q [] H (Same.refl H) RpL.nil
theorem l_cons {a : Expr} {as : List Expr} {a' : E} {as' : List E} (ha : PE X a (tE c X.K M a')) (hr : PA X as (tEs c X.K M as')) (hs : starEach (a :: as) X.env = (false, eval a X.env) :: starEach as X.env) : PA X (a :: as) (tEs c X.K M (a' :: as')) := pa_imp (pa_cons ha hr hs) fun σ H Q ⟨O, ρ, ds, o, ee, q⟩ => by
  rw [evs] at ee
  obtain ⟨x, e1, ee⟩ := bind_ok ee
  obtain ⟨xs, e2, ee⟩ := bind_ok ee
  cases ee
  exact ⟨O, ρ, x, o, e1, fun v H1 s1 r1 => ⟨O, ρ, xs, o.ext s1, e2, fun vs H2 s2 r2 => q _ H2 (s1.trans s2) (RpL.cons (same_rp s2 r1) r2)⟩⟩
theorem l_nilW : PA X [] (tWs c X.K M []) := pa_imp pa_nil fun σ H Q ⟨O, ρ, ds, o, ee, q⟩ => by
  rw [evs] at ee
  cases ee
  exact q [] H (Same.refl H) rfl
theorem l_consW {a : Expr} {as : List Expr} {a' : E} {as' : List E} (ha : PE X a (tW c X.K M a')) (hr : PA X as (tWs c X.K M as')) (hs : starEach (a :: as) X.env = (false, eval a X.env) :: starEach as X.env) : PA X (a :: as) (tWs c X.K M (a' :: as')) := pa_imp (pa_cons ha hr hs) fun σ H Q ⟨O, ρ, ds, o, ee, q⟩ => by
  rw [evs] at ee
  obtain ⟨x, e1, ee⟩ := bind_ok ee
  obtain ⟨xs, e2, ee⟩ := bind_ok ee
  cases ee
  exact ⟨O, ρ, x, o, e1, fun v H1 s1 r1 => ⟨O, ρ, xs, o.ext s1, e2, fun vs H2 s2 r2 => q _ H2 (s1.trans s2) ⟨_, _, rfl, same_rpw s2 r1, r2⟩⟩⟩
theorem l_tup {k : Nat} {pos : Pos} {es' : List E} (h : PA X es (tEs c X.K M es')) : PE X (.Tuple es k pos) (tE c X.K M (.tup es')) := pe_imp (pe_tup h) fun σ H Q ⟨O, ρ, d, o, ee, q⟩ => by
  rw [ev] at ee
  obtain ⟨ds, e1, ee⟩ := bind_ok ee
  obtain ⟨hl, e2⟩ := ok_ite ee
  cases e2
  exact ⟨O, ρ, ds, o, e1, fun vs H1 s1 r1 => ⟨by rw [← r1.length]; exact lim_line hl, fun p hp => q _ _ (s1.trans (same_new hp)) (new_tup hp (o.ext s1).dom r1)⟩⟩
theorem l_lst {pos : Pos} {es' : List E} (h : PA X es (tEs c X.K M es')) : PE X (.List es pos) (tE c X.K M (.lst es')) := pe_imp (pe_lst h) fun σ H Q ⟨O, ρ, d, o, ee, q⟩ => by
  rw [ev] at ee
  obtain ⟨ds, e1, ee⟩ := bind_ok ee
  obtain ⟨hl, e2⟩ := ok_ite ee
  cases e2
  exact ⟨O, ρ, ds, o, e1, fun vs H1 s1 r1 => ⟨by rw [← r1.length]; exact lim_line hl, fun p hp => q _ _ (s1.trans (same_new hp)) (new_lst hp (o.ext s1).dom r1)⟩⟩
/-! calls of built-ins: a rule of the values -/
def CallS (K : PySem.W.Frag) (r : List V → Hp → VK → Prop) (f : List D → R D) : Prop :=
  ∀ (O : Addr → Prop) (H : Hp) (xs : List D) (d : D) (vs : List V) (Q : VK), (∀ b, O b → H b ≠ none) → RpWL K O H xs vs → f xs = .ok d → (∀ u H', Same H H' → Rp K O H' d u → Q u H') → r vs H Q
theorem l_bi {a : Expr} {as : List Expr} {f : E} {as' : List E} {g : List D → R D} {r : List V → Hp → VK → Prop} (hs : CallS X.K r g) (he : ∀ ρ, ev c f ρ = (evs c as' ρ).bind g) (h : PE X e (tCB r (tWs c X.K M as'))) : PE X e (tE c X.K M f) := pe_imp h fun σ H Q ⟨O, ρ, d, o, ee, q⟩ => by
  rw [he] at ee
  obtain ⟨xs, e1, ee⟩ := bind_ok ee
  exact ⟨O, ρ, xs, o, e1, fun vs H1 s1 r1 => hs _ H1 xs d vs Q (o.ext s1).dom r1 ee fun u H2 s2 r2 => q u H2 (s1.trans s2) r2⟩
/-! calls of the text's own defs -/
/-- a def's promise by the evaluator's word -/
def spF (K : PySem.W.Frag) (f : List D → R D) : Sp := fun vs H Q _ => ∃ (O : Addr → Prop) (ds : List D) (d : D), (∀ b, O b → H b ≠ none) ∧ RpL K O H ds vs ∧ f ds = .ok d ∧ ∀ v H', Same H H' → Rp K O H' d v → Q v H'
theorem l_call {x : Str} {p pos : Pos} {a : Expr} {as : List Expr} {as' : List E} {k : Nat} {f : Addr} {fd : FuncData} {ps : List Str} (F : FnOk X.prog X.w X.K X.mg X.base CX0 k f fd ps (spF X.K (c.call x))) (hr : Room k X.A) (hg : Gl X x) (hm : X.mg x = some (.ref f))
    (hk : PySem.W.keepIn X.K (.ref f) = true) (hb : Binds X.K fd ps []) (ha : PA X (a :: as) (tEs c X.K M as')) (hdb : (x == ("__debug__" : Str)) = false)
    (hs : starEach (a :: as) X.env = (false, eval a X.env) :: starEach as X.env) (hpl : (backTo pos (starEach as X.env)).any (·.1) = false) : PE X (.Call (.Name x p) (a :: as) [] pos) (tE c X.K M (.call x as')) :=
  pe_imp (pe_call F hr hg hm hk hb .nil pass0 ha hdb hs hpl) fun σ H Q ⟨O, ρ, d, o, ee, q⟩ => by
  rw [ev] at ee
  obtain ⟨xs, e1, ee⟩ := bind_ok ee
  refine ⟨O, ρ, xs, o, e1, fun vs H1 s1 r1 => ?_⟩
  show spF X.K (c.call x) (vs ++ []) H1 Q E0
  rw [List.append_nil]
  exact ⟨Av O M σ, xs, d, (o.ext s1).dom, r1, ee, fun v H2 s2 r2 => q v H2 (s1.trans s2) r2⟩
/-! tests -/
theorem l_truth {a : Expr} {a' : E} (ha : PE X a (tW c X.K M a')) (he : ∀ whole, isTrue a X.env whole = (do let v ← whole; standAt a.pos; holding [v] (truthy v))) : PT X a (tT c X.K M a') := pt_imp (pt_truth ha he) fun σ H Q ⟨O, ρ, d, b, o, ee, et, q⟩ => by
  refine ⟨O, ρ, d, o, ee, fun v H1 s1 r1 => ⟨b, ?_, q H1 s1⟩⟩
  cases d with
  | non => cases r1.non; cases et; exact rfl
  | bl b => cases r1.bl; cases et; exact rfl
  | int b => cases r1.int; cases et; exact rfl
  | str b =>
    cases r1.str
    rw [truth] at et
    split at et
    · cases et
      exact ⟨lim_line (by assumption), rfl⟩
    · exact nomatch et
  | ref a => exact nomatch et
  | tup ds =>
    obtain ⟨a, vs, rfl, t, l⟩ := r1.tup
    cases et
    refine .inr (.inl ⟨vs, t.sq, ?_⟩)
    have := l.length
    cases ds <;> cases vs <;> first | rfl | simp at this
  | lst ds =>
    obtain ⟨a, vs, rfl, t, l⟩ := r1.lst
    cases et
    refine .inl ⟨vs, .inl t, ?_⟩
    have := l.length
    cases ds <;> cases vs <;> first | rfl | simp at this
theorem l_cmpT {op : CmpOp} {a b : Expr} {a' b' : E} {pos : Pos} (ho : Opp X (compareOp op) (dCmp op)) (ha : PE X a (tW c X.K M a')) (hb : PE X b (tW c X.K M b')) (hm : behindInMarks op b = false) (hB : ∀ x y d, dCmp op x y = .ok d → ∃ k, d = .bl k) : PT X (.Compare a [op] [b] pos) (tT c X.K M (.cmp op a' b')) := by
  obtain ⟨r, h1, h2⟩ := ho
  refine pt_imp (pt_cmpR h1 ha hb hm) fun σ H Q ⟨O, ρ, d, b, o, ee, et, q⟩ => ?_
  rw [ev] at ee
  obtain ⟨x, e1, ee⟩ := bind_ok ee
  obtain ⟨y, e2, ee⟩ := bind_ok ee
  refine ⟨O, ρ, x, o, e1, fun v H1 s1 r1 => ⟨O, ρ, y, o.ext s1, e2, fun w H2 s2 r2 => ?_⟩⟩
  refine h2 _ H2 x y d v w _ ((o.ext s1).ext s2).dom (same_rpw s2 r1) r2 ee fun u H3 s3 r3 => ?_
  obtain ⟨k, rfl⟩ := hB x y d ee
  cases r3.w.bl
  cases et
  exact ⟨_, rfl, q H3 ((s1.trans s2).trans s3)⟩
theorem dOrd_bl {p : Int → Int → Bool} {x y d : D} (h : dOrd p x y = .ok d) : ∃ k, d = .bl k := by
  unfold dOrd at h
  split at h
  · exact ⟨_, (R.ok_inj h).symm⟩
  · exact nomatch h
theorem dCmp_bl {op : CmpOp} {x y d : D} (h : dCmp op x y = .ok d) : ∃ k, d = .bl k := by
  cases op with
  | Eq => obtain ⟨b, _, e⟩ := rB_ok h; exact ⟨_, e⟩
  | NotEq => obtain ⟨b, _, e⟩ := rN_ok h; exact ⟨_, e⟩
  | Is => obtain ⟨b, _, e⟩ := rB_ok h; exact ⟨_, e⟩
  | IsNot => obtain ⟨b, _, e⟩ := rN_ok h; exact ⟨_, e⟩
  | In => obtain ⟨b, _, e⟩ := rB_ok h; exact ⟨_, e⟩
  | NotIn => obtain ⟨b, _, e⟩ := rN_ok h; exact ⟨_, e⟩
  | Lt => exact dOrd_bl h
  | LtE => exact dOrd_bl h
  | Gt => exact dOrd_bl h
  | GtE => exact dOrd_bl h
theorem l_notT {a : Expr} {a' : E} {pos : Pos} (ha : PT X a (tT c X.K M a')) : PT X (.UnaryOp .Not a pos) (tT c X.K M (.not a')) := pt_imp (pt_not ha) fun σ H Q ⟨O, ρ, d, b, o, ee, et, q⟩ => by
  rw [ev] at ee
  obtain ⟨x, e1, ee⟩ := bind_ok ee
  split at ee
  · cases ee
    cases et
    exact ⟨O, ρ, _, _, o, e1, rfl, fun H1 s1 => q H1 s1⟩
  · exact nomatch ee
theorem l_andT {a b : Expr} {rest : List Expr} {a' b' : E} {pos : Pos} (ha : PT X a (tT c X.K M a')) (hb : PW X (.BoolOp .And (b :: rest) pos) (tT c X.K M b')) : PW X (.BoolOp .And (a :: b :: rest) pos) (tT c X.K M (.and a' b')) := pw_imp (pw_and ha hb) fun σ H Q ⟨O, ρ, d, t, o, ee, et, q⟩ => by
  rw [ev] at ee
  obtain ⟨x, e1, ee⟩ := bind_ok ee
  split at ee
  · exact ⟨O, ρ, _, true, o, e1, rfl, fun H1 s1 => iteT ⟨O, ρ, d, t, o.ext s1, ee, et, fun H2 s2 => q H2 (s1.trans s2)⟩⟩
  · cases ee
    cases et
    exact ⟨O, ρ, _, false, o, e1, rfl, fun H1 s1 => iteF (q H1 s1)⟩
  · exact nomatch ee
theorem l_orT {a b : Expr} {rest : List Expr} {a' b' : E} {pos : Pos} (ha : PT X a (tT c X.K M a')) (hb : PW X (.BoolOp .Or (b :: rest) pos) (tT c X.K M b')) : PW X (.BoolOp .Or (a :: b :: rest) pos) (tT c X.K M (.or a' b')) := pw_imp (pw_or ha hb) fun σ H Q ⟨O, ρ, d, t, o, ee, et, q⟩ => by
  rw [ev] at ee
  obtain ⟨x, e1, ee⟩ := bind_ok ee
  split at ee
  · cases ee
    cases et
    exact ⟨O, ρ, _, true, o, e1, rfl, fun H1 s1 => iteT (q H1 s1)⟩
  · exact ⟨O, ρ, _, false, o, e1, rfl, fun H1 s1 => iteF ⟨O, ρ, d, t, o.ext s1, ee, et, fun H2 s2 => q H2 (s1.trans s2)⟩⟩
  · exact nomatch ee
end
end LC

set_option Elab.async false
set_option linter.all false
set_option maxRecDepth 100000
set_option maxHeartbeats 1000000
/-! LC: subscripts, isinstance, built-ins -/
namespace LC
open PySem PySem.Spec PyProof.Rows L2

theorem atI_map {α β : Type} (f : α → β) (xs : List α) (i : Int) : atI (xs.map f) i = (atI xs i).map f := by
  unfold atI
  rw [List.length_map]
  cases ixN xs.length i with
  | none => rfl
  | some j => exact List.getElem?_map
theorem mem_of_atI {α : Type} {xs : List α} {i : Int} {x : α} (h : atI xs i = some x) : x ∈ xs := by
  unfold atI at h
  cases q : ixN xs.length i with
  | none => rw [q] at h; exact nomatch h
  | some j => rw [q] at h; exact List.mem_of_getElem? h
section
variable {K : PySem.W.Frag} {O : Addr → Prop} {H : Hp} {ds : List D} {vs : List V} {d : D}
theorem RpL.atI (h : RpL K O H ds vs) {i : Int} (e : L2.atI ds i = some d) : ∃ v, L2.atI vs i = some v ∧ Rp K O H d v := by
  obtain ⟨ps, rfl, rfl, q⟩ := h.zip
  rw [atI_map] at e ⊢
  cases hp : L2.atI ps i with
  | none =>
    rw [hp] at e
    exact nomatch e
  | some p =>
    rw [hp] at e
    cases e
    exact ⟨p.2, rfl, q p (mem_of_atI hp)⟩
theorem rpl_ints : ∀ {ds : List D} {vs : List V} {ns : List Int}, RpL K O H ds vs → intsOf ds = some ns → vs = ns.map V.int
  | [], _, _, h, e => by
    rw [RpL] at h
    subst h
    cases e
    rfl
  | d :: ds, _, ns, h, e => by
    rw [RpL] at h
    obtain ⟨v, r, rfl, t, l⟩ := h
    cases d with
    | int i =>
      rw [intsOf] at e
      cases q : intsOf ds with
      | none => rw [q] at e; exact nomatch e
      | some ms =>
        rw [q] at e
        cases e
        rw [Rp] at t
        rw [t, rpl_ints l q]
        rfl
    | _ => exact nomatch e
theorem rpl_bools : ∀ {ds : List D} {vs : List V} {ns : List Bool}, RpL K O H ds vs → boolsOf ds = some ns → vs = ns.map V.bl
  | [], _, _, h, e => by
    rw [RpL] at h
    subst h
    cases e
    rfl
  | d :: ds, _, ns, h, e => by
    rw [RpL] at h
    obtain ⟨v, r, rfl, t, l⟩ := h
    cases d with
    | bl i =>
      rw [boolsOf] at e
      cases q : boolsOf ds with
      | none => rw [q] at e; exact nomatch e
      | some ms =>
        rw [q] at e
        cases e
        rw [Rp] at t
        rw [t, rpl_bools l q]
        rfl
    | _ => exact nomatch e
end

section
variable {X : Cx} {c : Cf} {M : List Nat}
theorem ops_ix {K : PySem.W.Frag} : OpS K (rIx K) dIdx := by
  intro O H x y d v w Q hO hx hy he q
  unfold dIdx at he
  split at he
  · obtain ⟨a, vs, rfl, t, l⟩ := hx.tup
    cases hy.int
    split at he
    · rename_i d' hd
      cases he
      obtain ⟨u, hu, r⟩ := l.atI hd
      exact .inr (.inl ⟨a, vs, _, u, rfl, rfl, t.sq, hu, q u H (Same.refl H) r⟩)
    · exact nomatch he
  · obtain ⟨a, vs, rfl, t, l⟩ := hx.lst
    cases hy.int
    split at he
    · rename_i d' hd
      cases he
      obtain ⟨u, hu, r⟩ := l.atI hd
      exact .inl ⟨a, vs, _, u, rfl, rfl, .inl t, hu, q u H (Same.refl H) r⟩
    · exact nomatch he
  · cases hx.str
    cases hy.int
    split at he
    · split at he
      · rename_i hl _ c hc
        cases he
        exact .inr (.inr ⟨_, _, c, rfl, rfl, lim_line hl, hc, q _ H (Same.refl H) rp_str⟩)
      · exact nomatch he
    · exact nomatch he
  · exact nomatch he
theorem l_idx {a b : Expr} {a' b' : E} {pos : Pos} (ha : PE X a (tW c X.K M a')) (hb : PE X b (tW c X.K M b')) (hs : PlainIx b) : PE X (.Subscript a b pos) (tE c X.K M (.idx a' b')) :=
  l_op2 (ta := tW c X.K M a') (tb := tW c X.K M b') ops_ix (fun ρ => by rw [ev]) (pe_ix ix_seq ha hb hs)

/-! slices -/
def tO (c : Cf) (K : PySem.W.Frag) (M : List Nat) (b : Bool) (e : E) : TO := fun σ H Q => ∃ O ρ i, Ok K O M ρ σ H ∧ prt b (ev c e ρ) = .ok i ∧ ∀ H', Same H H' → Q i H'
theorem po_imp {e : Option Expr} {t t' : TO} (h : PO X e t) (q : ∀ σ H Q, t' σ H Q → t σ H Q) : PO X e t' := ⟨fun pins s σ H Q I w => h.run pins s σ H Q I (q σ H Q w)⟩
theorem l_noPart {e : E} : PO X none (tO c X.K M false e) := po_imp po_none fun σ H Q ⟨O, ρ, i, o, ee, q⟩ => by
  rw [prt] at ee
  cases ee
  exact q H (Same.refl H)
theorem l_part {a : Expr} {a' : E} (h : PE X a (tW c X.K M a')) : PO X (some a) (tO c X.K M true a') := po_imp (po_some h) fun σ H Q ⟨O, ρ, i, o, ee, q⟩ => by
  cases hd : ev c a' ρ with
  | ok d =>
    rw [hd] at ee
    refine ⟨O, ρ, d, o, hd, fun v H1 s1 r1 => ?_⟩
    cases d with
    | int j =>
      cases r1.int
      cases ee
      exact ⟨j, rfl, q H1 s1⟩
    | _ => exact nomatch ee
  | exc x =>
    rw [hd] at ee
    exact nomatch ee
  | bad =>
    rw [hd] at ee
    exact nomatch ee
theorem cutV_eq (xs : List V) (lo hi : Option Int) : cutV xs lo hi = cutL xs lo hi := rfl
theorem cut_whole {xs : List D} {n : Nat} {l h : Option Int} (hlen : xs.length = n) (h1 : HT.sIx n 0 l = 0) (h2 : HT.sIx n n h = n) : cutL xs l h = xs := by
  unfold cutL
  rw [hlen, h1, h2, List.drop_zero, Nat.sub_zero, ← hlen, List.take_length]
theorem l_cut {a : Expr} {lo hi : Option Expr} {a' lo' hi' : E} {bl bh : Bool} {p2 pos : Pos} (ha : PE X a (tW c X.K M a')) (hl : PO X lo (tO c X.K M bl lo')) (hh : PO X hi (tO c X.K M bh hi')) : PE X (.Subscript a (.Slice lo hi none p2) pos) (tE c X.K M (.cut a' bl lo' bh hi')) :=
  pe_imp (pe_slice (sl_tupA.or (sl_list.or sl_str)) ha hl hh) fun σ H Q ⟨O, ρ, d, o, ee, q⟩ => by
  rw [ev] at ee
  obtain ⟨x, e1, ee⟩ := bind_ok ee
  obtain ⟨l, e2, ee⟩ := bind_ok ee
  obtain ⟨h, e3, ee⟩ := bind_ok ee
  unfold dCut at ee
  · refine ⟨O, ρ, x, o, e1, fun v H1 s1 r1 => ⟨O, ρ, l, o.ext s1, e2, fun H2 s2 => ⟨O, ρ, h, (o.ext s1).ext s2, e3, fun H3 s3 => ?_⟩⟩⟩
    have s4 : Same H H3 := (s1.trans s2).trans s3
    have r3 := same_rpw (s2.trans s3) r1
    split at ee
    · cases ee
      obtain ⟨a, vs, rfl, t, r⟩ := r3.tup
      refine .inl ⟨a, vs, rfl, t.sq, fun hw => q _ H3 s4 ?_, fun _ p hp => q _ _ (s4.trans (same_new hp)) (new_tup hp (o.ext s4).dom (r.cut l h))⟩
      rw [Rp]
      refine ⟨a, vs, rfl, t, ?_⟩
      rw [cut_whole r.length hw.1 hw.2]
      exact r
    · cases ee
      obtain ⟨a, vs, rfl, t, r⟩ := r3.lst
      exact .inr (.inl ⟨a, vs, rfl, .inl t, fun p hp => q _ _ (s4.trans (same_new hp)) (new_lst hp (o.ext s4).dom (r.cut l h))⟩)
    · cases r3.str
      obtain ⟨hz, e⟩ := ok_ite ee
      cases e
      exact .inr (.inr ⟨_, rfl, lim_line hz, q _ H3 s4 rp_str⟩)
    · exact nomatch ee

/-! isinstance -/
def tyName : Ty → String
  | .int => "int"
  | .bool => "bool"
  | .str => "str"
  | .tuple => "tuple"
  | .list => "list"
theorem l_isi {e : Expr} {a' : E} {t : Ty} (h : PE X e (tCB (rIsi X.K) (tCons (tW c X.K M a') (tCons (tC (.ty (tyName t))) tNil)))) : PE X e (tE c X.K M (.isi a' t)) := pe_imp h fun σ H Q ⟨O, ρ, d, o, ee, q⟩ => by
  rw [ev] at ee
  obtain ⟨x, e1, ee⟩ := bind_ok ee
  obtain ⟨b, e2, rfl⟩ := rB_ok ee
  refine ⟨O, ρ, x, o, e1, fun v H1 s1 r1 => ?_⟩
  show rIsi X.K [v, .ty (tyName t)] H1 Q
  have qb := q (.bl b) H1 s1 rp_bl
  cases x with
  | non =>
    cases r1.non
    cases t <;> cases e2 <;> exact ⟨_, _, _, _, _, rfl, .ty _, .base .non, kit_ty (by decide +kernel), qb⟩
  | bl i =>
    cases r1.bl
    cases t <;> cases e2 <;> exact ⟨_, _, _, _, _, rfl, .ty _, .base (.bl _), kit_ty (by decide +kernel), qb⟩
  | int i =>
    cases r1.int
    cases t <;> cases e2 <;> exact ⟨_, _, _, _, _, rfl, .ty _, .base (.int _), kit_ty (by decide +kernel), qb⟩
  | str i =>
    cases r1.str
    cases t <;> cases e2 <;> exact ⟨_, _, _, _, _, rfl, .ty _, .base (.str _), kit_ty (by decide +kernel), qb⟩
  | ref i => cases t <;> exact nomatch e2
  | tup ds =>
    obtain ⟨a, vs, rfl, tt, r⟩ := r1.tup
    have ty : TyX X.K H1 (.ref a) (.type "tuple") := by
      rcases tt with ⟨tt, _⟩ | tt
      · rcases tt with tt | ⟨ob, tt⟩
        · exact .base (.tup tt)
        · exact .fTuple tt
      · rcases tt with (tt | ⟨ob, tt⟩) | ⟨ob, its, n, h1, h2, _⟩
        · exact nomatch tt
        · exact nomatch tt
        · exact .kTuple h1 h2
    cases t <;> cases e2 <;> exact ⟨_, _, _, _, _, rfl, .ty _, ty, kit_ty (by decide +kernel), qb⟩
  | lst ds =>
    obtain ⟨a, vs, rfl, tt, r⟩ := r1.lst
    have ty : TyX X.K H1 (.ref a) (.type "list") := by
      rcases tt with tt | ⟨ob, tt⟩
      · exact .base (.lst tt)
      · exact .base (.frz tt)
    cases t <;> cases e2 <;> exact ⟨_, _, _, _, _, rfl, .ty _, ty, kit_ty (by decide +kernel), qb⟩

/-! built-ins -/
theorem callR_or {f : Value} {r r' : List V → Hp → VK → Prop} (h : CallR X f r) (h' : CallR X f r') : CallR X f (fun xs H Q => r xs H Q ∨ r' xs H Q) := by
  intro pins s σ H xs us Q I rx q
  rcases q with q | q
  · exact h pins s σ H xs us Q I rx q
  · exact h' pins s σ H xs us Q I rx q
def Cap (X : Cx) (f : Value) (g : List D → R D) : Prop := ∃ r, CallR X f r ∧ CallS X.K r g
theorem rpwl_one {K : PySem.W.Frag} {O : Addr → Prop} {H : Hp} {x : D} {vs : List V} (h : RpWL K O H [x] vs) : ∃ v, vs = [v] ∧ RpW K O H x v := by
  obtain ⟨v, r, rfl, t, e⟩ := h
  cases e
  exact ⟨v, rfl, t⟩
theorem rpwl_two {K : PySem.W.Frag} {O : Addr → Prop} {H : Hp} {x y : D} {vs : List V} (h : RpWL K O H [x, y] vs) : ∃ v w, vs = [v, w] ∧ RpW K O H x v ∧ RpW K O H y w := by
  obtain ⟨v, r, rfl, t, e⟩ := h
  obtain ⟨w, rfl, t'⟩ := rpwl_one e
  exact ⟨v, w, rfl, t, t'⟩
theorem rpwl_three {K : PySem.W.Frag} {O : Addr → Prop} {H : Hp} {x y z : D} {vs : List V} (h : RpWL K O H [x, y, z] vs) : ∃ v w u, vs = [v, w, u] ∧ RpW K O H x v ∧ RpW K O H y w ∧ RpW K O H z u := by
  obtain ⟨v, r, rfl, t, e⟩ := h
  obtain ⟨w, u, rfl, t', t''⟩ := rpwl_two e
  exact ⟨v, w, u, rfl, t, t', t''⟩
theorem cap_len : Cap X (.builtin "len") dLen := by
  refine ⟨_, call_len, ?_⟩
  intro O H xs d vs Q hO hx he q
  unfold dLen at he
  split at he
  · obtain ⟨v, rfl, r⟩ := rpwl_one hx
    cases r.str
    obtain ⟨hl, e⟩ := ok_ite he
    cases e
    exact ⟨_, _, rfl, ⟨lim_line hl, rfl⟩, q _ H (Same.refl H) rp_int⟩
  · obtain ⟨v, rfl, r⟩ := rpwl_one hx
    obtain ⟨a, vs, rfl, t, l⟩ := r.tup
    cases he
    rw [l.length] at q
    exact ⟨_, _, rfl, .inr ⟨vs, t.sq, rfl⟩, q _ H (Same.refl H) rp_int⟩
  · obtain ⟨v, rfl, r⟩ := rpwl_one hx
    obtain ⟨a, vs, rfl, t, l⟩ := r.lst
    cases he
    rw [l.length] at q
    exact ⟨_, _, rfl, .inl ⟨vs, .inl t, rfl⟩, q _ H (Same.refl H) rp_int⟩
  · exact nomatch he
theorem cap_int : Cap X (.type "int") dInt := by
  refine ⟨_, callR_or call_int1 call_int_str, ?_⟩
  intro O H xs d vs Q hO hx he q
  unfold dInt at he
  split at he
  · obtain ⟨v, rfl, r⟩ := rpwl_one hx
    cases r.int
    cases he
    exact .inl (.inl ⟨_, rfl, q _ H (Same.refl H) rp_int⟩)
  · obtain ⟨v, rfl, r⟩ := rpwl_one hx
    cases r.bl
    cases he
    exact .inl (.inr ⟨_, rfl, q _ H (Same.refl H) rp_int⟩)
  · obtain ⟨v, rfl, r⟩ := rpwl_one hx
    cases r.str
    split at he
    · rename_i hl
      split at he
      · rename_i n hn
        cases he
        exact .inr ⟨_, _, rfl, hn, hl, q _ H (Same.refl H) rp_int⟩
      · exact nomatch he
    · exact nomatch he
  · exact nomatch he
theorem log_small {n : Nat} (h : n < 10 ^ 30) : n.log2 < 1920 := by
  by_cases h0 : n = 0
  · subst h0
    decide
  · rw [Nat.log2_lt h0]
    exact Nat.lt_trans h (Nat.lt_of_lt_of_le (show 10 ^ 30 < 2 ^ 100 by decide) (Nat.pow_le_pow_right (by decide) (by decide)))
theorem cap_str : Cap X (.type "str") dStr := by
  refine ⟨_, call_str_int, ?_⟩
  intro O H xs d vs Q hO hx he q
  unfold dStr at he
  split at he
  · obtain ⟨v, rfl, r⟩ := rpwl_one hx
    cases r.int
    obtain ⟨hl, e⟩ := ok_ite he
    cases e
    exact ⟨_, rfl, log_small hl, q _ H (Same.refl H) rp_str⟩
  · exact nomatch he
theorem cap_tuple : Cap X (.type "tuple") dTuple := by
  refine ⟨_, call_tuple_of, ?_⟩
  intro O H xs d vs Q hO hx he q
  unfold dTuple at he
  split at he
  · obtain ⟨v, rfl, r⟩ := rpwl_one hx
    obtain ⟨a, vs, rfl, t, l⟩ := r.tup
    cases he
    refine ⟨a, vs, rfl, .inr ⟨t.sq, q _ H (Same.refl H) ?_⟩⟩
    rw [Rp]
    exact ⟨a, vs, rfl, t, l⟩
  · obtain ⟨v, rfl, r⟩ := rpwl_one hx
    obtain ⟨a, vs, rfl, t, l⟩ := r.lst
    cases he
    exact ⟨a, vs, rfl, .inl ⟨.inl t, fun p hp => q _ _ (same_new hp) (new_tup hp hO l)⟩⟩
  · exact nomatch he
theorem cap_list : Cap X (.type "list") dList := by
  refine ⟨_, call_list_of, ?_⟩
  intro O H xs d vs Q hO hx he q
  unfold dList at he
  split at he
  · obtain ⟨v, rfl, r⟩ := rpwl_one hx
    obtain ⟨a, vs, rfl, t, l⟩ := r.tup
    cases he
    exact ⟨a, vs, rfl, .inr t.sq, fun p hp => q _ _ (same_new hp) (new_lst hp hO l)⟩
  · obtain ⟨v, rfl, r⟩ := rpwl_one hx
    obtain ⟨a, vs, rfl, t, l⟩ := r.lst
    cases he
    exact ⟨a, vs, rfl, .inl (.inl t), fun p hp => q _ _ (same_new hp) (new_lst hp hO l)⟩
  · exact nomatch he
theorem cap_abs : Cap X (.builtin "abs") dAbs := by
  refine ⟨_, call_abs, ?_⟩
  intro O H xs d vs Q hO hx he q
  unfold dAbs at he
  split at he
  · obtain ⟨v, rfl, r⟩ := rpwl_one hx
    cases r.int
    cases he
    exact ⟨_, rfl, q _ H (Same.refl H) rp_int⟩
  · exact nomatch he
theorem cap_all (hc : X.calm = true) : Cap X (.builtin "all") dAll := by
  refine ⟨_, cr_all hc, ?_⟩
  intro O H xs d vs Q hO hx he q
  unfold dAll at he
  split at he
  · obtain ⟨v, rfl, r⟩ := rpwl_one hx
    obtain ⟨a, vs, rfl, t, l⟩ := r.lst
    split at he
    · rename_i bs hb
      cases he
      have e := rpl_bools l hb
      subst e
      exact ⟨a, bs, rfl, .inl t, q _ H (Same.refl H) rp_bl⟩
    · exact nomatch he
  · exact nomatch he
/-! sums of tuples -/
theorem sum_tup_raw {prog : Program} {w : World} {A : Around} {E : Value → Shared → Prop} {s : Shared} {Q : Value → Shared → Prop} {t : Addr} {its : List Value} {ns : List Int} (hh : A.handled = none) (ht : IsTup s.heap t its.toArray) (hi : IntsAre its ns)
    (h : ∀ h' tk t', (∀ b o, s.heap.get? b = some o → h'.get? b = some o) → Q (.int ns.sum t') { s with heap := h', toks := tk }) : wpAny (model prog w) A (call (.builtin "sum") [.ref t]) Q E s := by
  obtain ⟨xs, e⟩ := hi.allInts.items
  have hn : numsOf (intItems xs).toList = ns := by rw [← e]; exact hi.numsOf
  rw [nums_intItems] at hn
  have ht' : s.heap.IsTuple t (intItems xs) := by rw [← e]; exact ht
  refine PySem.W.ktm_sumG hh ht' fun h' tk t' hk => ?_
  have := h h' tk t' hk
  rw [preSum_eq, List.take_of_length_le (by simp), hn]
  exact this
theorem cr_sumT (hc : X.calm = true) : CallR X (.builtin "sum") (fun vs H Q => ∃ (a : Addr) (ns : List Int), vs = [V.ref a] ∧ SqT X.K H a (ns.map V.int) ∧ Q (.int ns.sum) H) := by
  intro pins s σ H vs us Q I r h
  obtain ⟨a, ns, rfl, hs, q⟩ := h
  obtain ⟨its, rv, hl, _⟩ := I.tuple hs
  rw [Vals.ref1 r]
  exact sum_tup_raw (I.ok.hd hc) hl rv.ints fun h' tk t' hk => ⟨.int _, H, I.kept hk, ⟨_, rfl⟩, q⟩
theorem cap_sum (hc : X.calm = true) : Cap X (.builtin "sum") dSum := by
  refine ⟨_, callR_or (cr_sum hc) (cr_sumT hc), ?_⟩
  intro O H xs d vs Q hO hx he q
  unfold dSum at he
  split at he
  · obtain ⟨v, rfl, r⟩ := rpwl_one hx
    obtain ⟨a, vs, rfl, t, l⟩ := r.tup
    split at he
    · rename_i ns hb
      cases he
      have e := rpl_ints l hb
      subst e
      exact .inr ⟨a, ns, rfl, t.sq, q _ H (Same.refl H) rp_int⟩
    · exact nomatch he
  · obtain ⟨v, rfl, r⟩ := rpwl_one hx
    obtain ⟨a, vs, rfl, t, l⟩ := r.lst
    split at he
    · rename_i ns hb
      cases he
      have e := rpl_ints l hb
      subst e
      exact .inl ⟨a, ns, rfl, .inl t, q _ H (Same.refl H) rp_int⟩
    · exact nomatch he
  · exact nomatch he
/-! max, min -/
theorem maxL_spec : ∀ (ns : List Int) (n : Int), maxL n ns ∈ n :: ns ∧ ∀ y ∈ n :: ns, y ≤ maxL n ns
  | [], n => ⟨List.mem_cons_self, fun y hy => by rw [List.mem_singleton.mp hy]; exact Int.le_refl _⟩
  | m :: ns, n => by
    have ih := maxL_spec ns (if m > n then m else n)
    rw [maxL]
    by_cases h : m > n
    · rw [if_pos h] at ih ⊢
      refine ⟨List.mem_cons_of_mem _ ih.1, fun y hy => ?_⟩
      rcases List.mem_cons.mp hy with rfl | hy
      · exact Int.le_trans (Int.le_of_lt h) (ih.2 m List.mem_cons_self)
      · exact ih.2 y hy
    · rw [if_neg h] at ih ⊢
      refine ⟨?_, fun y hy => ?_⟩
      · rcases List.mem_cons.mp ih.1 with e | e
        · rw [e]; exact List.mem_cons_self
        · exact List.mem_cons_of_mem _ (List.mem_cons_of_mem _ e)
      · rcases List.mem_cons.mp hy with rfl | hy
        · exact ih.2 _ List.mem_cons_self
        · rcases List.mem_cons.mp hy with rfl | hy
          · exact Int.le_trans (Int.not_lt.mp h) (ih.2 n List.mem_cons_self)
          · exact ih.2 y (List.mem_cons_of_mem _ hy)
theorem minL_spec : ∀ (ns : List Int) (n : Int), minL n ns ∈ n :: ns ∧ ∀ y ∈ n :: ns, minL n ns ≤ y
  | [], n => ⟨List.mem_cons_self, fun y hy => by rw [List.mem_singleton.mp hy]; exact Int.le_refl _⟩
  | m :: ns, n => by
    have ih := minL_spec ns (if m < n then m else n)
    rw [minL]
    by_cases h : m < n
    · rw [if_pos h] at ih ⊢
      refine ⟨List.mem_cons_of_mem _ ih.1, fun y hy => ?_⟩
      rcases List.mem_cons.mp hy with rfl | hy
      · exact Int.le_trans (ih.2 m List.mem_cons_self) (Int.le_of_lt h)
      · exact ih.2 y hy
    · rw [if_neg h] at ih ⊢
      refine ⟨?_, fun y hy => ?_⟩
      · rcases List.mem_cons.mp ih.1 with e | e
        · rw [e]; exact List.mem_cons_self
        · exact List.mem_cons_of_mem _ (List.mem_cons_of_mem _ e)
      · rcases List.mem_cons.mp hy with rfl | hy
        · exact ih.2 _ List.mem_cons_self
        · rcases List.mem_cons.mp hy with rfl | hy
          · exact Int.le_trans (ih.2 n List.mem_cons_self) (Int.not_lt.mp h)
          · exact ih.2 y (List.mem_cons_of_mem _ hy)
theorem call_max3 (hc : X.calm = true) : CallR X (.builtin "max") (fun xs H Q => ∃ i j k, xs = [.int i, .int j, .int k] ∧ Q (.int (maxL i [j, k])) H) := by
  intro pins s σ H xs us Q I r h
  obtain ⟨i, j, k, rfl, q⟩ := h
  obtain ⟨u1, u2, u3, rfl, ⟨t1, rfl⟩, ⟨t2, rfl⟩, ⟨t3, rfl⟩⟩ : ∃ a b c, us = [a, b, c] ∧ RelV (.int i) a ∧ RelV (.int j) b ∧ RelV (.int k) c := by
    cases r with
    | cons p r =>
      cases r with
      | cons p' r =>
        cases r with
        | cons p'' r =>
          cases r
          exact ⟨_, _, _, rfl, p, p', p''⟩
  refine max_three_ints (I.ok.hd hc) fun h' tk kk => ⟨_, H, I.kept kk, ?_, q⟩
  show ∃ t, _ = Value.int (if k > (if j > i then j else i) then k else (if j > i then j else i)) t
  by_cases h1 : j > i <;> by_cases h2 : k > j <;> by_cases h3 : k > i <;> simp only [h1, h2, h3, if_true, if_false] <;> exact ⟨_, rfl⟩
theorem call_min3 (hc : X.calm = true) : CallR X (.builtin "min") (fun xs H Q => ∃ i j k, xs = [.int i, .int j, .int k] ∧ Q (.int (minL i [j, k])) H) := by
  intro pins s σ H xs us Q I r h
  obtain ⟨i, j, k, rfl, q⟩ := h
  obtain ⟨u1, u2, u3, rfl, ⟨t1, rfl⟩, ⟨t2, rfl⟩, ⟨t3, rfl⟩⟩ : ∃ a b c, us = [a, b, c] ∧ RelV (.int i) a ∧ RelV (.int j) b ∧ RelV (.int k) c := by
    cases r with
    | cons p r =>
      cases r with
      | cons p' r =>
        cases r with
        | cons p'' r =>
          cases r
          exact ⟨_, _, _, rfl, p, p', p''⟩
  refine min_three_ints (I.ok.hd hc) fun h' tk kk => ⟨_, H, I.kept kk, ?_, q⟩
  show ∃ t, _ = Value.int (if k < (if j < i then j else i) then k else (if j < i then j else i)) t
  by_cases h1 : j < i <;> by_cases h2 : k < j <;> by_cases h3 : k < i <;> simp only [h1, h2, h3, if_true, if_false] <;> exact ⟨_, rfl⟩
end
end LC

set_option Elab.async false
set_option linter.all false
set_option maxRecDepth 100000
set_option maxHeartbeats 1000000
/-! LC: max, min, steps, products, in -/
namespace LC
open PySem PySem.Spec PyProof.Rows L2
section
variable {prog : Program} {w : World} {A : Around} {E : Value → Shared → Prop} {s : Shared} {Q : Value → Shared → Prop} {t : Addr} {its : List Value} {ns : List Int}
theorem max_tup_raw (hh : A.handled = none) (ht : IsTup s.heap t its.toArray) (hi : IntsAre its ns) (hne : 0 < ns.length)
    (h : ∀ h' tk m t', (∀ b o, s.heap.get? b = some o → h'.get? b = some o) → m ∈ ns → (∀ a, a ∈ ns → a ≤ m) → Q (.int m t') { s with heap := h', toks := tk }) : wpAny (model prog w) A (PySem.call (.builtin "max") [.ref t]) Q E s := by
  obtain ⟨xs, e⟩ := hi.allInts.items
  have hn : numsOf (intItems xs).toList = ns := by rw [← e]; exact hi.numsOf
  rw [nums_intItems] at hn
  subst hn
  have hsz : 0 < xs.size := by simpa using hne
  have ht' : s.heap.IsTuple t (intItems xs) := by rw [← e]; exact ht
  obtain ⟨o, ho, hc, n, hd⟩ := id ht'
  have hneq : t ≠ s.heap.objs.size := Nat.ne_of_lt (Heap.lt_size ho)
  refine call_max_walk (wpAny_pyIter_tuple ht' ?_)
  refine ⟨s.heap.objs.size, _, _, _, _, _, _, rfl, Walks.tuple (A := A.in1) hh s.heap.objs.size t hneq (intItems xs), ⟨⟨_, Heap.get?_push_size _ rfl, rfl, rfl⟩, ht'.at fun o e => Heap.get?_push_of_some _ e⟩, fun b hb => ?_, by simpa [intItems] using hsz, CmpOf.ints_gt (numAt xs) (fun _ _ => intItems_at), fun v h' tk hP hk => ?_⟩
  · rcases List.mem_cons.mp hb with rfl | hb
    · exact Heap.lt_size (Heap.get?_push_size _ rfl)
    · obtain rfl := List.mem_singleton.mp hb
      exact Heap.lt_size (Heap.get?_push_of_some _ ho)
  · have hv : (intItems xs)[argBest (fun i j => decide (numAt xs i > numAt xs j)) (xs.size - 1)]? = some v := by simpa [intItems] using hP
    obtain ⟨t', rfl⟩ := intItems_at hv
    obtain ⟨h1, h2⟩ := argBest_gt (numAt xs) (xs.size - 1)
    refine h h' tk _ t' (fun b o q => hk b o (fun z => absurd (Heap.lt_size q) ((List.mem_singleton.mp z) ▸ Nat.lt_irrefl _)) (Heap.get?_push_of_some _ q)) ?_ fun a ha => ?_
    · rw [numAt_eq]
      exact PySem.getD_mem (by rw [List.length_map, Array.length_toList]; omega)
    · obtain ⟨j, hj, rfl⟩ := mem_getD ha
      rw [List.length_map, Array.length_toList] at hj
      rw [← numAt_eq]
      exact h2 j (by omega)
theorem min_tup_raw (hh : A.handled = none) (ht : IsTup s.heap t its.toArray) (hi : IntsAre its ns) (hne : 0 < ns.length)
    (h : ∀ h' tk m t', (∀ b o, s.heap.get? b = some o → h'.get? b = some o) → m ∈ ns → (∀ a, a ∈ ns → m ≤ a) → Q (.int m t') { s with heap := h', toks := tk }) : wpAny (model prog w) A (PySem.call (.builtin "min") [.ref t]) Q E s := by
  obtain ⟨xs, e⟩ := hi.allInts.items
  have hn : numsOf (intItems xs).toList = ns := by rw [← e]; exact hi.numsOf
  rw [nums_intItems] at hn
  subst hn
  have hsz : 0 < xs.size := by simpa using hne
  have ht' : s.heap.IsTuple t (intItems xs) := by rw [← e]; exact ht
  obtain ⟨o, ho, hc, n, hd⟩ := id ht'
  have hneq : t ≠ s.heap.objs.size := Nat.ne_of_lt (Heap.lt_size ho)
  refine call_min_walk (wpAny_pyIter_tuple ht' ?_)
  refine ⟨s.heap.objs.size, _, _, _, _, _, _, rfl, Walks.tuple (A := A.in1) hh s.heap.objs.size t hneq (intItems xs), ⟨⟨_, Heap.get?_push_size _ rfl, rfl, rfl⟩, ht'.at fun o e => Heap.get?_push_of_some _ e⟩, fun b hb => ?_, by simpa [intItems] using hsz, CmpOf.ints_lt (numAt xs) (fun _ _ => intItems_at), fun v h' tk hP hk => ?_⟩
  · rcases List.mem_cons.mp hb with rfl | hb
    · exact Heap.lt_size (Heap.get?_push_size _ rfl)
    · obtain rfl := List.mem_singleton.mp hb
      exact Heap.lt_size (Heap.get?_push_of_some _ ho)
  · have hv : (intItems xs)[argBest (fun i j => decide (numAt xs i < numAt xs j)) (xs.size - 1)]? = some v := by simpa [intItems] using hP
    obtain ⟨t', rfl⟩ := intItems_at hv
    obtain ⟨h1, h2⟩ := argBest_lt (numAt xs) (xs.size - 1)
    refine h h' tk _ t' (fun b o q => hk b o (fun z => absurd (Heap.lt_size q) ((List.mem_singleton.mp z) ▸ Nat.lt_irrefl _)) (Heap.get?_push_of_some _ q)) ?_ fun a ha => ?_
    · rw [numAt_eq]
      exact PySem.getD_mem (by rw [List.length_map, Array.length_toList]; omega)
    · obtain ⟨j, hj, rfl⟩ := mem_getD ha
      rw [List.length_map, Array.length_toList] at hj
      rw [← numAt_eq]
      exact h2 j (by omega)
end
section
variable {X : Cx} {c : Cf} {M : List Nat}
theorem cr_maxT (hc : X.calm = true) : CallR X (.builtin "max") (fun vs H Q => ∃ (a : Addr) (ns : List Int), vs = [V.ref a] ∧ SqT X.K H a (ns.map V.int) ∧ 0 < ns.length ∧ ∀ m, m ∈ ns → (∀ y, y ∈ ns → y ≤ m) → Q (.int m) H) := by
  intro pins s σ H vs us Q I r h
  obtain ⟨a, ns, rfl, hs, hne, q⟩ := h
  obtain ⟨its, rv, hl, _⟩ := I.tuple hs
  rw [Vals.ref1 r]
  exact max_tup_raw (I.ok.hd hc) hl rv.ints hne fun h' tk m t' hk h1 h2 => ⟨.int _, H, I.kept hk, ⟨_, rfl⟩, q m h1 h2⟩
theorem cr_minT (hc : X.calm = true) : CallR X (.builtin "min") (fun vs H Q => ∃ (a : Addr) (ns : List Int), vs = [V.ref a] ∧ SqT X.K H a (ns.map V.int) ∧ 0 < ns.length ∧ ∀ m, m ∈ ns → (∀ y, y ∈ ns → m ≤ y) → Q (.int m) H) := by
  intro pins s σ H vs us Q I r h
  obtain ⟨a, ns, rfl, hs, hne, q⟩ := h
  obtain ⟨its, rv, hl, _⟩ := I.tuple hs
  rw [Vals.ref1 r]
  exact min_tup_raw (I.ok.hd hc) hl rv.ints hne fun h' tk m t' hk h1 h2 => ⟨.int _, H, I.kept hk, ⟨_, rfl⟩, q m h1 h2⟩
theorem cap_max (hc : X.calm = true) : Cap X (.builtin "max") dMax := by
  refine ⟨_, callR_or (call_max2 hc) (callR_or (call_max3 hc) (callR_or (cr_maxT hc) (cr_max hc))), ?_⟩
  intro O H xs d vs Q hO hx he q
  unfold dMax at he
  split at he
  · obtain ⟨v, w, rfl, r, r'⟩ := rpwl_two hx
    cases r.int
    cases r'.int
    cases he
    exact .inl ⟨_, _, rfl, q _ H (Same.refl H) rp_int⟩
  · obtain ⟨v, w, u, rfl, r, r', r''⟩ := rpwl_three hx
    cases r.int
    cases r'.int
    cases r''.int
    cases he
    exact .inr (.inl ⟨_, _, _, rfl, q _ H (Same.refl H) rp_int⟩)
  · obtain ⟨v, rfl, r⟩ := rpwl_one hx
    obtain ⟨a, vs, rfl, t, l⟩ := r.tup
    split at he
    · rename_i n ns hb
      cases he
      have e := rpl_ints l hb
      subst e
      refine .inr (.inr (.inl ⟨a, n :: ns, rfl, t.sq, Nat.succ_pos _, fun m h1 h2 => ?_⟩))
      obtain ⟨g1, g2⟩ := maxL_spec ns n
      rw [Int.le_antisymm (g2 m h1) (h2 _ g1)]
      exact q _ H (Same.refl H) rp_int
    · exact nomatch he
  · obtain ⟨v, rfl, r⟩ := rpwl_one hx
    obtain ⟨a, vs, rfl, t, l⟩ := r.lst
    split at he
    · rename_i n ns hb
      cases he
      have e := rpl_ints l hb
      subst e
      refine .inr (.inr (.inr ⟨a, n :: ns, rfl, .inl t, Nat.succ_pos _, fun m h1 h2 => ?_⟩))
      obtain ⟨g1, g2⟩ := maxL_spec ns n
      rw [Int.le_antisymm (g2 m h1) (h2 _ g1)]
      exact q _ H (Same.refl H) rp_int
    · exact nomatch he
  · exact nomatch he
theorem cap_min (hc : X.calm = true) : Cap X (.builtin "min") dMin := by
  refine ⟨_, callR_or (call_min2 hc) (callR_or (call_min3 hc) (callR_or (cr_minT hc) (cr_min hc))), ?_⟩
  intro O H xs d vs Q hO hx he q
  unfold dMin at he
  split at he
  · obtain ⟨v, w, rfl, r, r'⟩ := rpwl_two hx
    cases r.int
    cases r'.int
    cases he
    exact .inl ⟨_, _, rfl, q _ H (Same.refl H) rp_int⟩
  · obtain ⟨v, w, u, rfl, r, r', r''⟩ := rpwl_three hx
    cases r.int
    cases r'.int
    cases r''.int
    cases he
    exact .inr (.inl ⟨_, _, _, rfl, q _ H (Same.refl H) rp_int⟩)
  · obtain ⟨v, rfl, r⟩ := rpwl_one hx
    obtain ⟨a, vs, rfl, t, l⟩ := r.tup
    split at he
    · rename_i n ns hb
      cases he
      have e := rpl_ints l hb
      subst e
      refine .inr (.inr (.inl ⟨a, n :: ns, rfl, t.sq, Nat.succ_pos _, fun m h1 h2 => ?_⟩))
      obtain ⟨g1, g2⟩ := minL_spec ns n
      rw [Int.le_antisymm (h2 _ g1) (g2 m h1)]
      exact q _ H (Same.refl H) rp_int
    · exact nomatch he
  · obtain ⟨v, rfl, r⟩ := rpwl_one hx
    obtain ⟨a, vs, rfl, t, l⟩ := r.lst
    split at he
    · rename_i n ns hb
      cases he
      have e := rpl_ints l hb
      subst e
      refine .inr (.inr (.inr ⟨a, n :: ns, rfl, .inl t, Nat.succ_pos _, fun m h1 h2 => ?_⟩))
      obtain ⟨g1, g2⟩ := minL_spec ns n
      rw [Int.le_antisymm (h2 _ g1) (g2 m h1)]
      exact q _ H (Same.refl H) rp_int
    · exact nomatch he
  · exact nomatch he
/-! in -/
theorem op_inT (hu : X.A.units + 65 < cLine) : OpR X (compareOp .In) (fun x y H Q => ∃ d ds, Dp X.K H x d ∧ Dp X.K H y (.tuple ds) ∧ SeqAt.shaped d = true ∧ SeqAt.shaped (.tuple ds) = true ∧ Q (.bl (ds.any fun z => PyData.eqv z d)) H) := by
  intro pins s σ H x y v u Q I rx ry h
  obtain ⟨d, ds, hd, he, sd, se, q⟩ := h
  obtain ⟨as, r1⟩ := Dp.reads I d x v hd rx
  obtain ⟨bs, r2⟩ := Dp.reads I (.tuple ds) y u he ry
  exact SeqAt.in_tuple_reads r2 r1 (SeqAt.canLay_of_shaped se) (SeqAt.canLay_of_shaped sd) (room_in_shaped sd hu) ⟨.bl _, H, I, rfl, q⟩
theorem op_notInT (hu : X.A.units + 65 < cLine) : OpR X (compareOp .NotIn) (fun x y H Q => ∃ d ds, Dp X.K H x d ∧ Dp X.K H y (.tuple ds) ∧ SeqAt.shaped d = true ∧ SeqAt.shaped (.tuple ds) = true ∧ Q (.bl (!ds.any fun z => PyData.eqv z d)) H) := by
  intro pins s σ H x y v u Q I rx ry h
  obtain ⟨d, ds, hd, he, sd, se, q⟩ := h
  obtain ⟨as, r1⟩ := Dp.reads I d x v hd rx
  obtain ⟨bs, r2⟩ := Dp.reads I (.tuple ds) y u he ry
  exact SeqAt.notIn_tuple_reads r2 r1 (SeqAt.canLay_of_shaped se) (SeqAt.canLay_of_shaped sd) (room_in_shaped sd hu) ⟨.bl _, H, I, rfl, q⟩
theorem str_of {s : Str} {l : List Nat} (h : s.cps.toList = l) : s = ⟨l.toArray⟩ := by
  obtain ⟨a⟩ := s
  cases h
  rfl
theorem any_toPys (d : PyData) : ∀ ys : List D, ((toPys ys).any fun z => PyData.eqv z d) = ys.any fun z => PyData.eqv (toPy z) d
  | [] => by rw [toPys]; rfl
  | y :: ys => by rw [toPys, List.any_cons, List.any_cons, any_toPys d ys]
theorem opp_in (hu : X.A.units + 65 < cLine) : Opp X (compareOp .In) (dCmp .In) := by
  refine ⟨_, (op_inD hu).or ((op_inT hu).or op_in_sign), ?_⟩
  intro O H x y d v w Q hO hx hy he q
  obtain ⟨b, e1, rfl⟩ := rB_ok he
  unfold dIn at e1
  split at e1
  · obtain ⟨hs, e⟩ := ok_ite e1
    rw [Bool.and_eq_true] at hs
    subst e
    have h2 := hy.dp hs.2
    rw [toPy] at h2
    refine .inl ⟨toPy x, _, hx.dp hs.1, h2, hs.1, by rw [← toPy]; exact hs.2, ?_⟩
    rw [any_toPys]
    exact q _ H (Same.refl H) rp_bl
  · obtain ⟨hs, e⟩ := ok_ite e1
    rw [Bool.and_eq_true] at hs
    subst e
    have h2 := hy.dp hs.2
    rw [toPy] at h2
    refine .inr (.inl ⟨toPy x, _, hx.dp hs.1, h2, hs.1, by rw [← toPy]; exact hs.2, ?_⟩)
    rw [any_toPys]
    exact q _ H (Same.refl H) rp_bl
  · split at e1
    · split at e1
      · rename_i hc
        cases e1
        cases hx.str
        cases hy.str
        exact .inr (.inr ⟨_, _, congrArg V.str (str_of hc), rfl, q _ H (Same.refl H) rp_bl⟩)
      · exact nomatch e1
    · exact nomatch e1
  · exact nomatch e1
theorem opp_notIn (hu : X.A.units + 65 < cLine) : Opp X (compareOp .NotIn) (dCmp .NotIn) := by
  refine ⟨_, (op_notInD hu).or ((op_notInT hu).or op_notIn_sign), ?_⟩
  intro O H x y d v w Q hO hx hy he q
  obtain ⟨b, e1, rfl⟩ := rN_ok he
  unfold dIn at e1
  split at e1
  · obtain ⟨hs, e⟩ := ok_ite e1
    rw [Bool.and_eq_true] at hs
    subst e
    have h2 := hy.dp hs.2
    rw [toPy] at h2
    refine .inl ⟨toPy x, _, hx.dp hs.1, h2, hs.1, by rw [← toPy]; exact hs.2, ?_⟩
    rw [any_toPys]
    exact q _ H (Same.refl H) rp_bl
  · obtain ⟨hs, e⟩ := ok_ite e1
    rw [Bool.and_eq_true] at hs
    subst e
    have h2 := hy.dp hs.2
    rw [toPy] at h2
    refine .inr (.inl ⟨toPy x, _, hx.dp hs.1, h2, hs.1, by rw [← toPy]; exact hs.2, ?_⟩)
    rw [any_toPys]
    exact q _ H (Same.refl H) rp_bl
  · split at e1
    · split at e1
      · rename_i hc
        cases e1
        cases hx.str
        cases hy.str
        exact .inr (.inr ⟨_, _, congrArg V.str (str_of hc), rfl, q _ H (Same.refl H) rp_bl⟩)
      · exact nomatch e1
    · exact nomatch e1
  · exact nomatch e1
end
/-! sorted -/
theorem insI_perm (x : Int) : ∀ l : List Int, (insI x l).Perm (x :: l)
  | [] => List.Perm.refl _
  | y :: r => by
    rw [insI]
    split
    · exact List.Perm.refl _
    · exact ((insI_perm x r).cons y).trans (List.Perm.swap x y r)
theorem srtI_perm : ∀ l : List Int, (srtI l).Perm l
  | [] => List.Perm.refl _
  | x :: r => (insI_perm x (srtI r)).trans ((srtI_perm r).cons x)
theorem insI_srt (x : Int) : ∀ l : List Int, l.Pairwise (· ≤ ·) → (insI x l).Pairwise (· ≤ ·)
  | [], _ => List.pairwise_singleton _ _
  | y :: r, h => by
    rw [insI]
    obtain ⟨h1, h2⟩ := List.pairwise_cons.mp h
    split
    · rename_i hxy
      refine List.pairwise_cons.mpr ⟨fun z hz => ?_, h⟩
      rcases List.mem_cons.mp hz with rfl | hz
      · exact hxy
      · exact Int.le_trans hxy (h1 z hz)
    · rename_i hxy
      refine List.pairwise_cons.mpr ⟨fun z hz => ?_, insI_srt x r h2⟩
      rcases List.mem_cons.mp ((insI_perm x r).mem_iff.mp hz) with rfl | hz
      · omega
      · exact h1 z hz
theorem srtI_srt : ∀ l : List Int, (srtI l).Pairwise (· ≤ ·)
  | [] => List.Pairwise.nil
  | x :: r => insI_srt x _ (srtI_srt r)
theorem leP_tr {p q r : Int × Int} (h1 : leP p q) (h2 : leP q r) : leP p r := by
  unfold leP at h1 h2 ⊢
  omega
theorem leP_no {p q : Int × Int} (h : ¬ leP p q) : leP q p := by
  unfold leP at h ⊢
  omega
theorem leP_as {p q : Int × Int} (h1 : leP p q) (h2 : leP q p) : p = q := by
  unfold leP at h1 h2
  exact Prod.ext (by omega) (by omega)
theorem insP_perm (x : Int × Int) : ∀ l : List (Int × Int), (insP x l).Perm (x :: l)
  | [] => List.Perm.refl _
  | y :: r => by
    rw [insP]
    split
    · exact List.Perm.refl _
    · exact ((insP_perm x r).cons y).trans (List.Perm.swap x y r)
theorem srtP_perm : ∀ l : List (Int × Int), (srtP l).Perm l
  | [] => List.Perm.refl _
  | x :: r => (insP_perm x (srtP r)).trans ((srtP_perm r).cons x)
theorem insP_srt (x : Int × Int) : ∀ l : List (Int × Int), l.Pairwise leP → (insP x l).Pairwise leP
  | [], _ => List.pairwise_singleton _ _
  | y :: r, h => by
    rw [insP]
    obtain ⟨h1, h2⟩ := List.pairwise_cons.mp h
    split
    · rename_i hxy
      refine List.pairwise_cons.mpr ⟨fun z hz => ?_, h⟩
      rcases List.mem_cons.mp hz with rfl | hz
      · exact hxy
      · exact leP_tr hxy (h1 z hz)
    · rename_i hxy
      refine List.pairwise_cons.mpr ⟨fun z hz => ?_, insP_srt x r h2⟩
      rcases List.mem_cons.mp ((insP_perm x r).mem_iff.mp hz) with rfl | hz
      · exact leP_no hxy
      · exact h1 z hz
theorem srtP_srt : ∀ l : List (Int × Int), (srtP l).Pairwise leP
  | [] => List.Pairwise.nil
  | x :: r => insP_srt x _ (srtP_srt r)
/-- v is the pair p -/
def PrP (K : PySem.W.Frag) (H : Hp) (v : V) (p : Int × Int) : Prop := ∃ t, v = .ref t ∧ SqT K H t [.int p.1, .int p.2]
/-- sorted of a list of pairs, wherever the pairs lie -/
def rSrt (K : PySem.W.Frag) : List V → Hp → VK → Prop := fun vs H Q => ∃ (a : Addr) (xs : List V) (ps : List (Int × Int)), vs = [V.ref a] ∧ SqL K H a xs ∧ ps.length = xs.length ∧ (∀ (i : Nat) x p, xs[i]? = some x → ps[i]? = some p → PrP K H x p) ∧
  ∀ ys q, ys.length = ps.length → (∀ (i : Nat) y p, ys[i]? = some y → (srtP ps)[i]? = some p → ∃ j : Nat, xs[j]? = some y ∧ ps[j]? = some p) → H q = none → Q (.ref q) (upd H q (.lst ys))
section
variable {X : Cx}
open Classical in
noncomputable def keyP (K : PySem.W.Frag) (H : Hp) (v : V) : Int × Int := if h : ∃ p, PrP K H v p then h.choose else (0, 0)
theorem keyP_eq {pins : List (Addr × Obj)} {s : Shared} {σ : L2.St} {H : Hp} (I : L2.Inv X pins σ H s) {v : V} {p : Int × Int} (h : PrP X.K H v p) : keyP X.K H v = p := by
  have hx : ∃ p, PrP X.K H v p := ⟨p, h⟩
  have e : keyP X.K H v = hx.choose := dif_pos hx
  obtain ⟨t, e1, g1⟩ := hx.choose_spec
  obtain ⟨t', e2, g2⟩ := h
  rw [e1] at e2
  cases e2
  have := I.tuple_inj g1 g2
  rw [e]
  injection this with q1 q2
  injection q2 with q2 _
  exact Prod.ext (V.int.inj q1) (V.int.inj q2)
theorem cr_srt : CallR X (.builtin "sorted") (rSrt X.K) := by
  intro pins s σ H vs us Q I r h
  obtain ⟨a, xs, ps, rfl, hs, hlen, hx, q⟩ := h
  obtain ⟨its, rv, hl, hz⟩ := I.list hs
  rw [Vals.ref1 r]
  have hpr : ∀ x ∈ xs, ∃ (j : Nat) (p : Int × Int), xs[j]? = some x ∧ ps[j]? = some p ∧ PrP X.K H x p := fun x m => by
    obtain ⟨j, hj, rfl⟩ := List.getElem_of_mem m
    have g1 := List.getElem?_eq_getElem hj
    have g2 := List.getElem?_eq_getElem (show j < ps.length by omega)
    exact ⟨j, _, g1, g2, hx j _ _ g1 g2⟩
  obtain ⟨e1, e2⟩ := refs_back rv fun x m => by
    obtain ⟨j, p, _, _, t, e, _⟩ := hpr x m
    exact ⟨t, e⟩
  have hkm : xs.map (keyP X.K H) = ps := by
    apply List.ext_getElem?
    intro i
    rw [List.getElem?_map]
    cases hi : xs[i]? with
    | none =>
      rw [List.getElem?_eq_none_iff] at hi
      exact (List.getElem?_eq_none_iff.mpr (by omega)).symm
    | some x =>
      have hil : i < xs.length := (List.getElem?_eq_some_iff.mp hi).1
      have g2 := List.getElem?_eq_getElem (show i < ps.length by omega)
      rw [g2]
      exact congrArg some (keyP_eq I (hx i _ _ hi g2))
  refine SrtO.sorted_pairsO (k := fun u => keyP X.K H (backV u)) hl.isList (by rw [← rv.length]; exact hz) (fun v hv => ?_) fun h' d out h1 h2 kp hd hn => ?_
  · obtain ⟨t, rfl⟩ := e2 v hv
    have hm : V.ref t ∈ xs := by rw [e1]; exact List.mem_map_of_mem (f := backV) hv
    obtain ⟨j, p, _, _, hp⟩ := hpr _ hm
    have hk := keyP_eq I hp
    obtain ⟨t', e, ht⟩ := hp
    cases e
    obtain ⟨its2, r2, ⟨o, ho, hc, n, hd⟩, _⟩ := I.tuple ht
    obtain ⟨u1, u2, rfl, ri, rj⟩ := vals2 r2
    obtain ⟨t1, rfl⟩ := ri
    obtain ⟨t2, rfl⟩ := rj
    refine ⟨t, o, t1, t2, n, rfl, ho, hc, ?_⟩
    rw [show backV (Value.ref t) = V.ref t from rfl, hk]
    exact hd
  · have h3 : ∀ u ∈ out, ∃ a, u = Value.ref a := fun u hu => e2 u (h2.perm.mem_iff.mp hu)
    obtain ⟨n, hn⟩ := hn
    have hperm : (out.map backV).Perm xs := by
      rw [e1]
      exact h2.perm.map backV
    have hke : (out.map backV).map (keyP X.K H) = srtP ps := by
      have p1 : ((out.map backV).map (keyP X.K H)).Perm (srtP ps) := by
        have := hperm.map (keyP X.K H)
        rw [hkm] at this
        exact this.trans (srtP_perm ps).symm
      refine List.Perm.eq_of_pairwise (le := leP) (fun a b _ _ x y => leP_as x y) ?_ (srtP_srt ps) p1
      rw [List.map_map]
      refine List.pairwise_map.mpr (h1.imp fun {x y} hh => ?_)
      have := SrtO.lexB_no.mp hh
      show leP (keyP X.K H (backV x)) (keyP X.K H (backV y))
      unfold leP
      omega
    have hol : out.length = ps.length := by
      have := hperm.length_eq
      rw [List.length_map] at this
      omega
    refine ⟨.ref d, upd H d (.lst (out.map backV)), I.laid (t' := s.toks) kp hd ⟨?_, out, n, vals_back h3, hn⟩, rfl, q _ d ?_ (fun i y p hy hp => ?_) (I.hok.fresh hd)⟩
    · rw [List.length_map, hol, hlen]
      exact hz
    · rw [List.length_map]
      exact hol
    · have hym : y ∈ xs := hperm.mem_iff.mp (List.mem_of_getElem? hy)
      obtain ⟨j, p', g1, g2, hpp⟩ := hpr y hym
      have hk := keyP_eq I hpp
      rw [← hke, List.getElem?_map, hy] at hp
      have : keyP X.K H y = p := Option.some.inj hp
      rw [← this, hk]
      exact ⟨j, g1, g2⟩
theorem prs_get {K : PySem.W.Frag} {O : Addr → Prop} {H : Hp} : ∀ {ds : List D} {vs : List V} {ps : List (Int × Int)}, RpL K O H ds vs → prsOf ds = some ps → ps.length = vs.length ∧ ∀ (i : Nat) x p, vs[i]? = some x → ps[i]? = some p → Rp K O H (prD1 p) x
  | [], _, _, h, e => by
    rw [RpL] at h
    subst h
    cases e
    exact ⟨rfl, fun i x p h1 _ => by simp at h1⟩
  | d :: ds, _, ps, h, e => by
    rw [RpL] at h
    obtain ⟨v, r, rfl, t, l⟩ := h
    unfold prsOf at e
    split at e
    · rename_i heq
      cases heq
    · rename_i a b r' heq
      cases heq
      cases hq : prsOf ds with
      | none => rw [hq] at e; exact nomatch e
      | some qs =>
        rw [hq] at e
        cases e
        obtain ⟨h1, h2⟩ := prs_get l hq
        refine ⟨by rw [List.length_cons, List.length_cons, h1], fun i x p g1 g2 => ?_⟩
        cases i with
        | zero =>
          rw [List.getElem?_cons_zero] at g1 g2
          cases g1
          cases g2
          exact t
        | succ i =>
          rw [List.getElem?_cons_succ] at g1 g2
          exact h2 i x p g1 g2
    · exact nomatch e
theorem rp_pair {K : PySem.W.Frag} {O : Addr → Prop} {H : Hp} {p : Int × Int} {x : V} (h : Rp K O H (prD1 p) x) : PrP K H x p := by
  unfold prD1 at h
  rw [Rp] at h
  obtain ⟨t, vs, rfl, ht, l⟩ := h
  rw [RpL] at l
  obtain ⟨v1, r1, rfl, g1, l⟩ := l
  rw [RpL] at l
  obtain ⟨v2, r2, rfl, g2, l⟩ := l
  rw [RpL] at l
  subst l
  rw [Rp] at g1 g2
  subst g1 g2
  exact ⟨t, rfl, ht.sq⟩
theorem rpl_by {K : PySem.W.Frag} {O : Addr → Prop} {H : Hp} : ∀ {ps : List (Int × Int)} {vs : List V}, vs.length = ps.length → (∀ (i : Nat) x p, vs[i]? = some x → ps[i]? = some p → Rp K O H (prD1 p) x) → RpL K O H (ps.map prD1) vs
  | [], [], _, _ => RpL.nil
  | p :: ps, v :: vs, hl, h => RpL.cons (h 0 v p rfl rfl) (rpl_by (by simpa using hl) fun i x q g1 g2 => h (i + 1) x q g1 g2)
  | [], _ :: _, hl, _ => by simp at hl
  | _ :: _, [], hl, _ => by simp at hl
theorem rpl_mi {K : PySem.W.Frag} {O : Addr → Prop} {H : Hp} : ∀ ns : List Int, RpL K O H (ns.map D.int) (ns.map V.int)
  | [] => RpL.nil
  | n :: ns => RpL.cons (by rw [Rp]) (rpl_mi ns)
/-- a tuple gathered as a new list -/
theorem gather_tup {P : Program} {w : World} {A : Around} {E : Value → Shared → Prop} {z : Shared} {tp : Addr} {us : List Value} {Q : List Value → Shared → Prop} (ht : z.heap.IsTuple tp us.toArray) (hn : us.length ≤ sizeLine)
    (hq : Q us { z with heap := (z.heap.push (seqObj "list" #[] 0)).update z.heap.objs.size (Obj.mapSeq (· ++ us.toArray)) }) : wpAny (model P w) A (collect (.ref tp)) Q E z := by
  obtain ⟨ob, hob, hcl, m, hda⟩ := id ht
  have new : (z.heap.push (seqObj "list" #[] 0)).get? z.heap.objs.size = some (seqObj "list" #[] 0) := Heap.get?_push_size _ rfl
  have old : (z.heap.push (seqObj "list" #[] 0)).get? tp = some ob := Heap.get?_push_of_some _ hob
  have hty : (Value.type "tuple" == Value.type "list" || Value.type "tuple" == Value.type "tuple") = true := by decide
  unfold collect
  refine wpAny_bind (wpAny_runValue (codeAny_builtin entry_proto_collect' (?_ : wpAny _ _ (do again (.builtin "list.__iadd__" ⟨[← newList [], .ref tp], []⟩)) _ _ z)))
  refine wpAny_bind (wpAny_newList (wpAny_pure ⟨Code.quiet_builtin _ (by decide +kernel), codeAny_builtin entry_list_iadd' (?_ : wpAny _ _ (Builtin.List.listExtendWith (.ref z.heap.objs.size) (.ref tp) (.ref z.heap.objs.size)) _ _ { z with heap := z.heap.push (seqObj "list" #[] 0) })⟩))
  unfold Builtin.List.listExtendWith
  refine wpAny_bind (wpAny_typeOf (T := "tuple") ⟨ob, old, hcl⟩ ?_)
  rw [if_pos (by first | exact hty | simpa using hty)]
  refine wpAny_bind (listItems_at old hda (wpAny_bind (listItems_at (xs := #[]) (n := 0) new rfl ?_)))
  rw [if_neg (by simp)]
  have hfit : (#[] ++ us.toArray : Array Value).size ≤ sizeLine + 1 := by
    rw [Array.size_append, List.size_toArray]
    show 0 + us.length ≤ sizeLine + 1
    omega
  refine wpAny_bind (listUpdate_at (xs := #[]) (n := 0) new rfl (wpAny_pure ?_) (Nat.zero_le _) hfit)
  refine wpAny_bind (m := load z.heap.objs.size) (wpAny_load (get?_update_seq new _) ?_)
  have e : ((#[] : Array Value) ++ us.toArray).toList = us := by simp
  show wpAny _ _ (pure ((#[] : Array Value) ++ us.toArray).toList) Q E _
  rw [e]
  exact wpAny_pure hq
/-- sorted(t), t a tuple -/
theorem sorted_ordT {P : Program} {w : World} {A : Around} {E : Value → Shared → Prop} {z : Shared} {tp : Addr} {us : List Value} {lt : Value → Value → Bool} {Q : Value → Shared → Prop} (W : SrtO.Swo lt) (ht : z.heap.IsTuple tp us.toArray) (hn : us.length ≤ sizeLine)
    (hS : 2 ≤ us.length → ∀ (g : Heap) (a : Addr), g.get? a = some (seqObj "list" us.toArray 0) → SrtO.SortableO P w A.in1.in1 { z with heap := g } a us lt)
    (hq : ∀ out : List Value, SrtO.Srtd lt out → SrtO.Stb lt out us → Q (.ref (z.heap.objs.size + 1)) { z with heap := sortedAll z.heap us out.toArray }) :
    wpAny (model P w) A (call (.builtin "sorted") [.ref tp]) Q E z := by
  refine Calls.call_function_entry kind_sorted plain_sorted entry_sorted (args_sorted1 _) ?_
  unfold Builtin.«sorted»
  refine wpAny_bind (m := checkCount "sorted" 1 1 _) (wpAny_pure (wpAny_bind (gather_tup ht hn (wpAny_bind (wpAny_newList ?_ hn)))))
  generalize hg : (z.heap.push (seqObj "list" #[] 0)).update z.heap.objs.size (Obj.mapSeq (· ++ us.toArray)) = g
  have hgs : g.objs.size = z.heap.objs.size + 1 := by
    rw [← hg, Heap.size_update, Heap.size_push]
  have hat : (g.push (seqObj "list" us.toArray 0)).get? (z.heap.objs.size + 1) = some (seqObj "list" us.toArray 0) := by
    rw [← hgs]
    exact Heap.get?_push_size _ rfl
  show wpAny _ _ _ _ _ { z with heap := g.push (seqObj "list" us.toArray 0) }
  rw [hgs]
  refine wpAny_bind (wpAny_holding (wpAny_call_entry slot_list_sort ⟨_, hat, rfl⟩ entry_list_sort (SrtO.list_sort_ord W hat hn (fun h2 => hS h2 _ _ hat) fun out hs hb => ⟨_, rfl, wpAny_pure ⟨_, rfl, ?_⟩⟩) (args_list_sort _)))
  have := hq out hs hb
  unfold sortedAll at this
  rw [hg] at this
  exact this
def rSortedTI (K : PySem.W.Frag) : List V → Hp → VK → Prop := fun vs H Q => ∃ (a : Addr) (ns : List Int), vs = [V.ref a] ∧ SqT K H a (ns.map V.int) ∧
  ∀ (ns' : List Int) (p : Addr), ns'.Perm ns → ns'.Pairwise (· ≤ ·) → H p = none → Q (.ref p) (upd H p (.lst (ns'.map V.int)))
theorem cr_sortedTI : CallR X (.builtin "sorted") (rSortedTI X.K) := by
  intro pins s σ H vs us Q I r h
  obtain ⟨a, ns, rfl, hs, q⟩ := h
  obtain ⟨its, rv, hl, hz⟩ := I.tuple hs
  rw [Vals.ref1 r]
  have hi := rv.ints
  refine sorted_ordT SrtO.swo_int hl (by rw [← rv.length]; exact hz) (fun h2 g a' _ => SrtO.ints_sortable hi h2) fun out h1 h2 => ?_
  obtain ⟨k1, k2, k3⟩ := SrtO.ints_out hi h1 h2
  obtain ⟨ep, he'⟩ := PyProof.Rows.sortedAll_at s.heap its out.toArray
  have hlen : ((out.map SrtO.iv).map V.int).length ≤ sizeLine := by
    rw [List.length_map, k2.length_eq]
    rw [List.length_map] at hz
    exact hz
  exact ⟨.ref _, upd H (s.heap.objs.size + 1) (.lst ((out.map SrtO.iv).map V.int)), I.laid (t' := s.toks) (fun _ _ => PyProof.Rows.sortedAll_old) (Nat.le_succ _) ⟨hlen, out, ep, vals_of_ints k1, he'⟩, rfl, q _ _ k2 k3 (I.hok.fresh (Nat.le_succ _))⟩
theorem cap_sorted : Cap X (.builtin "sorted") dSorted := by
  refine ⟨_, callR_or (callR_or cr_sortedI cr_srt) cr_sortedTI, ?_⟩
  intro O H xs d vs Q hO hx he q
  unfold dSorted at he
  split at he
  · obtain ⟨v, rfl, r⟩ := rpwl_one hx
    obtain ⟨a, vs, rfl, t, l⟩ := r.lst
    split at he
    · rename_i ns hb
      cases he
      have e := rpl_ints l hb
      subst e
      refine .inl (.inl ⟨a, ns, rfl, .inl t, fun ns' p h1 h2 hp => ?_⟩)
      have e : ns' = srtI ns := List.Perm.eq_of_pairwise (le := fun x y : Int => x ≤ y) (fun a b _ _ x y => Int.le_antisymm x y) h2 (srtI_srt ns) (h1.trans (srtI_perm ns).symm)
      subst e
      exact q _ _ (same_new hp) (new_lst hp hO (rpl_mi _))
    · split at he
      · rename_i ps hb
        cases he
        obtain ⟨g1, g2⟩ := prs_get l hb
        refine .inl (.inr ⟨a, vs, ps, rfl, .inl t, g1, fun i x p h1 h2 => rp_pair (g2 i x p h1 h2), fun ys p hl hy hp => ?_⟩)
        refine q _ _ (same_new hp) (new_lst hp hO (rpl_by ?_ fun i x p' h1 h2 => ?_))
        · rw [hl, (srtP_perm ps).length_eq]
        · obtain ⟨j, k1, k2⟩ := hy i x p' h1 h2
          exact g2 j x p' k1 k2
      · exact nomatch he
  · obtain ⟨v, rfl, r⟩ := rpwl_one hx
    obtain ⟨a, vs, rfl, t, l⟩ := r.tup
    split at he
    · rename_i ns hb
      cases he
      have e := rpl_ints l hb
      subst e
      refine .inr ⟨a, ns, rfl, t.sq, fun ns' p h1 h2 hp => ?_⟩
      have e : ns' = srtI ns := List.Perm.eq_of_pairwise (le := fun x y : Int => x ≤ y) (fun a b _ _ x y => Int.le_antisymm x y) h2 (srtI_srt ns) (h1.trans (srtI_perm ns).symm)
      subst e
      exact q _ _ (same_new hp) (new_lst hp hO (rpl_mi _))
    · exact nomatch he
  · exact nomatch he
end
end LC

set_option Elab.async false
set_option linter.all false
set_option maxRecDepth 100000
set_option maxHeartbeats 1000000
/-! LC: slices with a step -/
namespace LC
open PySem PySem.Spec PyProof.Rows L2
def pickN {α : Type} (xs : List α) (lo st : Int) (n : Nat) : List α := (List.range n).filterMap fun (k : Nat) => xs[(lo + (k : Int) * st).toNat]?
theorem fm_congr {α β : Type} {f g : α → Option β} : ∀ {l : List α}, (∀ x ∈ l, f x = g x) → l.filterMap f = l.filterMap g
  | [], _ => rfl
  | x :: r, h => by
    rw [List.filterMap_cons, List.filterMap_cons, h x List.mem_cons_self, fm_congr fun y hy => h y (List.mem_cons_of_mem _ hy)]
theorem pick_even {α : Type} : ∀ (xs : List α), (List.range ((xs.length + 1) / 2)).filterMap (fun (k : Nat) => xs[2 * k]?) = evens xs
  | [] => by simp [evens]
  | [x] => by simp [evens, List.range_succ]
  | x :: y :: r => by
    have e : ((x :: y :: r).length + 1) / 2 = (r.length + 1) / 2 + 1 := by
      rw [List.length_cons, List.length_cons]
      omega
    rw [e, List.range_succ_eq_map, List.filterMap_cons]
    show x :: List.filterMap (fun (k : Nat) => (x :: y :: r)[2 * k]?) (List.map Nat.succ (List.range ((r.length + 1) / 2))) = x :: evens r
    rw [List.filterMap_map, ← pick_even r]
    congr 1
theorem pick_all {α : Type} : ∀ (xs : List α) (n : Nat), n = xs.length → (List.range n).filterMap (fun (k : Nat) => xs[k]?) = xs
  | [], _, h => by subst h; rfl
  | x :: r, _, h => by
    subst h
    rw [List.length_cons, List.range_succ_eq_map, List.filterMap_cons]
    show x :: List.filterMap (fun (k : Nat) => (x :: r)[k]?) (List.map Nat.succ (List.range r.length)) = x :: r
    rw [List.filterMap_map]
    congr 1
    exact pick_all r _ rfl
def stpSt : Stp → Int
  | .rev => -1
  | .even => 2
  | .odd => 2
def stpLo : Stp → Option Int
  | .rev => none
  | .even => none
  | .odd => some 1
theorem pick_stp {α : Type} (k : Stp) (xs : List α) : pickN xs (Builtin.Slice.sliceAdjust (stpLo k) none (stpSt k) xs.length).1 (stpSt k)
    (Builtin.Slice.slicePlaces (Builtin.Slice.sliceAdjust (stpLo k) none (stpSt k) xs.length).1 (Builtin.Slice.sliceAdjust (stpLo k) none (stpSt k) xs.length).2 (stpSt k)) = stpL k xs := by
  unfold pickN
  cases k with
  | rev =>
    have e1 : Builtin.Slice.sliceAdjust (stpLo .rev) none (stpSt .rev) xs.length = ((xs.length : Int) - 1, -1) := by
      simp [Builtin.Slice.sliceAdjust, stpLo, stpSt]
    have e2 : Builtin.Slice.slicePlaces ((xs.length : Int) - 1) (-1) (-1) = xs.length := by
      unfold Builtin.Slice.slicePlaces
      have h : ¬ ((-1 : Int) > 0) := by omega
      rw [if_neg h, show -(-1 : Int) = 1 from rfl, Int.ediv_one]
      split <;> omega
    rw [e1]
    show List.filterMap (fun (k : Nat) => xs[((xs.length : Int) - 1 + (k : Int) * -1).toNat]?) (List.range (Builtin.Slice.slicePlaces ((xs.length : Int) - 1) (-1) (-1))) = xs.reverse
    rw [e2, ← pick_all xs.reverse xs.length (by rw [List.length_reverse])]
    apply fm_congr
    intro k hk
    have hk := List.mem_range.mp hk
    rw [List.getElem?_reverse hk]
    congr 1
    omega
  | even =>
    have e1 : Builtin.Slice.sliceAdjust (stpLo .even) none (stpSt .even) xs.length = (0, (xs.length : Int)) := by
      simp [Builtin.Slice.sliceAdjust, stpLo, stpSt]
    have e2 : Builtin.Slice.slicePlaces 0 (xs.length : Int) 2 = (xs.length + 1) / 2 := by
      unfold Builtin.Slice.slicePlaces
      have h : (2 : Int) > 0 := by omega
      rw [if_pos h]
      split <;> omega
    rw [e1]
    show List.filterMap (fun (k : Nat) => xs[((0 : Int) + (k : Int) * 2).toNat]?) (List.range (Builtin.Slice.slicePlaces 0 (xs.length : Int) 2)) = evens xs
    rw [e2, ← pick_even xs]
    apply fm_congr
    intro k hk
    congr 1
    omega
  | odd =>
    cases xs with
    | nil => rfl
    | cons x r =>
      have e1 : Builtin.Slice.sliceAdjust (stpLo .odd) none (stpSt .odd) (x :: r).length = (1, ((x :: r).length : Int)) := by
        simp [Builtin.Slice.sliceAdjust, stpLo, stpSt]
        omega
      have e2 : Builtin.Slice.slicePlaces 1 ((x :: r).length : Int) 2 = (r.length + 1) / 2 := by
        unfold Builtin.Slice.slicePlaces
        have h : (2 : Int) > 0 := by omega
        rw [if_pos h, List.length_cons]
        split <;> omega
      rw [e1]
      show List.filterMap (fun (k : Nat) => (x :: r)[((1 : Int) + (k : Int) * 2).toNat]?) (List.range (Builtin.Slice.slicePlaces 1 ((x :: r).length : Int) 2)) = evens r
      rw [e2, ← pick_even r]
      apply fm_congr
      intro k hk
      rw [show ((1 : Int) + (k : Int) * 2).toNat = 2 * k + 1 by omega]
      rfl
theorem stpL_len {α : Type} (k : Stp) (xs : List α) : (stpL k xs).length ≤ xs.length := by
  have h : ∀ ys : List α, (evens ys).length ≤ ys.length := fun ys => by
    rw [← pick_even]
    refine Nat.le_trans (List.length_filterMap_le _ _) ?_
    rw [List.length_range]
    omega
  cases k with
  | rev => exact Nat.le_of_eq List.length_reverse
  | even => exact h xs
  | odd => exact Nat.le_trans (h _) (by rw [List.length_tail]; omega)
section
variable {prog : Program} {w : World} {A : Around} {E : Value → Shared → Prop} {s : Shared}
theorem sliceApplied_stp {sl : Addr} {vl vs : Value} {n : Nat} {Q : Int × Int × Nat → Shared → Prop} (k : Stp) (hs : s.heap.IsSliceOf sl vl .none vs) (pl : IsPart vl (stpLo k)) (ps : IsPart vs (some (stpSt k)))
    (h : Q ((Builtin.Slice.sliceAdjust (stpLo k) none (stpSt k) n).1, stpSt k, Builtin.Slice.slicePlaces (Builtin.Slice.sliceAdjust (stpLo k) none (stpSt k) n).1 (Builtin.Slice.sliceAdjust (stpLo k) none (stpSt k) n).2 (stpSt k)) s) :
    wpAny (model prog w) A (Builtin.Slice.sliceApplied (.ref sl) (pure (n : Int))) Q E s := by
  obtain ⟨os, hos, hcs, hds⟩ := id hs
  unfold Builtin.Slice.sliceApplied Builtin.Slice.sliceFields
  refine wpAny_bind (wpAny_bind (wpAny_field hos hds (x := vl) rfl (wpAny_bind (wpAny_field hos hds (x := .none) rfl (wpAny_bind (wpAny_field hos hds (x := vs) rfl (wpAny_pure ?_)))))))
  refine wpAny_bind (HT.slicePart_ ps ?_)
  have hne : ¬ ((stpSt k == 0) = true) := by cases k <;> decide
  show wpAny _ _ (if (stpSt k == 0) = true then _ else _) _ _ s
  rw [if_neg hne]
  refine wpAny_bind (HT.slicePart_ pl (wpAny_bind (slicePart_none (wpAny_bind (wpAny_pure ?_)))))
  exact wpAny_pure h
theorem getItem_tuple_stp {t sl : Addr} {items : Array Value} {vl vs : Value} {Q : Value → Shared → Prop} (k : Stp) (ht : IsTup s.heap t items) (hs : s.heap.IsSliceOf sl vl .none vs) (pl : IsPart vl (stpLo k)) (ps : IsPart vs (some (stpSt k)))
    (h : Q (.ref s.heap.objs.size) { s with heap := s.heap.push { cls := .type "tuple", data := .seq (stpL k items.toList).toArray } }) (hsz : items.size ≤ sizeLine) : wpAny (model prog w) A (getItem (.ref t) (.ref sl)) Q E s := by
  have hok : sizeOk (.seq (stpL k items.toList).toArray) := by
    show (stpL k items.toList).toArray.size ≤ sizeLine
    have := stpL_len k items.toList
    rw [Array.length_toList] at this
    rw [List.size_toArray]
    exact Nat.le_trans this hsz
  obtain ⟨os, hos, hcs, hds⟩ := id hs
  have hTs : s.TypeIs (.ref sl) "slice" := ⟨os, hos, hcs⟩
  unfold getItem
  try with_reducible refine wpAny_holding ?_
  first | refine wpAny_bind (wpAny_pure ?_) | skip
  refine wpAny_bind (wpAny_sequenceKey ht.typeIs (by decide) ?_)
  refine wpAny_bind (wpAny_callSpecial?_slot (name := Str.ofString "__getitem__") ht.typeIs PyProof.Rows.slot_tuple_getitem (wpAny_call_entry PyProof.Rows.slot_tuple_getitem ht.typeIs entry_tuple_getitem ?_ (args_tuple_getitem _ _)))
  show wpAny _ _ (Builtin.Tuple.tupleItemsOf (.ref t) >>= _) _ _ s
  refine wpAny_bind (tupleItemsOf_ ht ?_)
  refine wpAny_bind (wpAny_typeOf hTs ?_)
  rw [if_pos (by decide)]
  refine wpAny_bind (sliceApplied_stp k hs pl ps ?_)
  have hno : ¬ ((((Builtin.Slice.sliceAdjust (stpLo k) none (stpSt k) items.size).1 == 0 && stpSt k == 1 && (Builtin.Slice.slicePlaces (Builtin.Slice.sliceAdjust (stpLo k) none (stpSt k) items.size).1 (Builtin.Slice.sliceAdjust (stpLo k) none (stpSt k) items.size).2 (stpSt k)) == items.size)) = true) := by
    intro q
    rw [Bool.and_eq_true, Bool.and_eq_true] at q
    have q1 := q.1.2
    cases k <;> exact absurd q1 (by decide)
  show wpAny _ _ (if ((Builtin.Slice.sliceAdjust (stpLo k) none (stpSt k) items.size).1 == 0 && stpSt k == 1 && (Builtin.Slice.slicePlaces (Builtin.Slice.sliceAdjust (stpLo k) none (stpSt k) items.size).1 (Builtin.Slice.sliceAdjust (stpLo k) none (stpSt k) items.size).2 (stpSt k)) == items.size) = true then _ else _) _ _ s
  rw [if_neg hno]
  have ep := pick_stp k items.toList
  unfold pickN at ep
  rw [Array.length_toList] at ep
  simp only [Array.getElem?_toList] at ep
  rw [ep]
  first
    | exact wpAny_bind (m := Builtin.Tuple.tupleExact _) (wpAny_newObj_type (wpAny_pure ⟨_, rfl, wpAny_pure h⟩) hok)
    | exact wpAny_bind (m := Builtin.Tuple.tupleExact _) (wpAny_newObj_type (wpAny_bind (wpAny_pure (wpAny_pure ⟨_, rfl, wpAny_pure h⟩))) hok)
    | exact wpAny_bind (wpAny_bind (m := Builtin.Tuple.tupleExact _) (wpAny_newObj_type (wpAny_pure (wpAny_pure ⟨_, rfl, wpAny_pure h⟩)) hok))
    | exact wpAny_bind (wpAny_bind (m := Builtin.Tuple.tupleExact _) (wpAny_newObj_type (wpAny_pure ⟨_, rfl, wpAny_pure h⟩) hok))
theorem listPick_stp (k : Stp) (items : Array Value) : slicePick items (stpLo k) none (some (stpSt k)) = (stpL k items.toList).toArray := by
  rw [← pick_stp k items.toList]
  unfold slicePick pickN sliceRange
  rw [List.filterMap_map]
  have e1 : (sliceBounds (stpLo k) none (some (stpSt k)) items.size) = ((Builtin.Slice.sliceAdjust (stpLo k) none (stpSt k) items.size).1, (Builtin.Slice.sliceAdjust (stpLo k) none (stpSt k) items.size).2, stpSt k) := by
    cases k
    · simp [sliceBounds, Builtin.Slice.sliceAdjust, stpLo, stpSt]
    · simp [sliceBounds, Builtin.Slice.sliceAdjust, stpLo, stpSt]
    · simp [sliceBounds, Builtin.Slice.sliceAdjust, stpLo, stpSt]
      omega
  rw [e1, Array.length_toList]
  generalize (Builtin.Slice.sliceAdjust (stpLo k) none (stpSt k) items.size).1 = lo
  generalize (Builtin.Slice.sliceAdjust (stpLo k) none (stpSt k) items.size).2 = hi
  congr 1
  have e2 : (if stpSt k > 0 then (if lo < hi then (hi - lo + stpSt k - 1) / stpSt k else 0) else (if lo > hi then (lo - hi - stpSt k - 1) / (-stpSt k) else 0)).toNat = Builtin.Slice.slicePlaces lo hi (stpSt k) := by
    unfold Builtin.Slice.slicePlaces
    have n1 : ¬ ((-1 : Int) > 0) := by omega
    have p2 : (2 : Int) > 0 := by omega
    have hst : stpSt k = -1 ∨ stpSt k = 2 := by cases k <;> first | exact .inl rfl | exact .inr rfl
    clear e1
    generalize stpSt k = st at hst ⊢
    rcases hst with rfl | rfl
    · rw [if_neg n1, if_neg n1, show -(-1 : Int) = 1 from rfl, Int.ediv_one, Int.ediv_one]
      split <;> omega
    · rw [if_pos p2, if_pos p2]
      split <;> omega
  show List.filterMap ((fun x => items[x]?) ∘ fun (j : Nat) => (lo + stpSt k * (j : Int)).toNat) (List.range ((if stpSt k > 0 then (if lo < hi then (hi - lo + stpSt k - 1) / stpSt k else 0) else (if lo > hi then (lo - hi - stpSt k - 1) / (-stpSt k) else 0)).toNat)) = _
  rw [e2]
  apply fm_congr
  intro j hj
  show items[(lo + stpSt k * (j : Int)).toNat]? = items.toList[(lo + (j : Int) * stpSt k).toNat]?
  rw [Array.getElem?_toList, Int.mul_comm]
end
end LC

set_option Elab.async false
set_option linter.all false
set_option maxRecDepth 100000
set_option maxHeartbeats 1000000
/-! LC: slices with a step, products -/
namespace LC
open PySem PySem.Spec PyProof.Rows L2
theorem map_stp {α β : Type} (k : Stp) (f : α → β) (l : List α) : stpL k (l.map f) = (stpL k l).map f := by
  cases k with
  | rev => exact (List.map_reverse).symm
  | even => exact map_evens f l
  | odd =>
    show evens (l.map f).tail = (evens l.tail).map f
    rw [← List.map_tail, map_evens]
theorem mem_stp {α : Type} (k : Stp) (l : List α) (x : α) (h : x ∈ stpL k l) : x ∈ l := by
  cases k with
  | rev => exact List.mem_reverse.mp h
  | even => exact mem_evens l x h
  | odd => exact List.mem_of_mem_tail (mem_evens _ x h)
theorem paired_zip {α β : Type} {F : α → β → Prop} : ∀ {xs : List α} {ys : List β}, Paired F xs ys → ∃ ps : List (α × β), xs = ps.map (·.1) ∧ ys = ps.map (·.2) ∧ ∀ p ∈ ps, F p.1 p.2
  | _, _, .nil => ⟨[], rfl, rfl, fun _ z => nomatch z⟩
  | _, _, .cons (a := a) (b := b) h t => by
    obtain ⟨ps, rfl, rfl, q⟩ := paired_zip t
    refine ⟨(a, b) :: ps, rfl, rfl, fun p hp => ?_⟩
    rcases List.mem_cons.mp hp with rfl | hp
    · exact h
    · exact q p hp
theorem paired_of {α β : Type} {F : α → β → Prop} : ∀ {ps : List (α × β)}, (∀ p ∈ ps, F p.1 p.2) → Paired F (ps.map (·.1)) (ps.map (·.2))
  | [], _ => .nil
  | p :: ps, h => .cons (h p List.mem_cons_self) (paired_of fun q hq => h q (List.mem_cons_of_mem _ hq))
theorem vals_stp {xs : List V} {us : List Value} (k : Stp) (r : Vals xs us) : Vals (stpL k xs) (stpL k us) := by
  obtain ⟨ps, rfl, rfl, q⟩ := paired_zip r
  rw [map_stp, map_stp]
  exact paired_of fun p hp => q p (mem_stp k ps p hp)
theorem rev_picked (z : Str) : (Builtin.Str.strSliceIndices none none (-1) z.length).filterMap (z.cps[·]?) = z.cps.toList.reverse := by
  rw [PyProof.Rows.picked_rev, PyProof.Rows.filterMap_get z.cps _ (fun i hi => by
    obtain ⟨k, hk, rfl⟩ := List.mem_map.mp hi
    have hk' : k < z.length := List.mem_range.mp hk
    show z.length - 1 - k < z.length
    omega), List.map_map]
  apply List.ext_getElem?
  intro k
  by_cases hk : k < z.length
  · have hk2 : k < z.cps.toList.length := by rw [Array.length_toList]; exact hk
    rw [List.getElem?_map, List.getElem?_range hk, List.getElem?_reverse hk2, Option.map_some]
    show some (z.cps.getD (z.length - 1 - k) 0) = _
    have h3 : z.length - 1 - k < z.cps.size := by show z.length - 1 - k < z.length; omega
    rw [Array.getElem?_toList, Array.length_toList, show z.cps.size - 1 - k = z.length - 1 - k from rfl, Array.getElem?_eq_getElem h3]
    simp [Array.getD, h3]
  · rw [List.getElem?_eq_none (by rw [List.length_map, List.length_range]; omega), List.getElem?_eq_none (by rw [List.length_reverse, Array.length_toList]; show z.length ≤ k; omega)]
section
variable {X : Cx} {c : Cf} {M : List Nat}
def rStp (K : PySem.W.Frag) (k : Stp) : V → Hp → VK → Prop := fun x H Q => (∃ a xs, x = .ref a ∧ SqT K H a xs ∧ ∀ p, H p = none → Q (.ref p) (upd H p (.tup (stpL k xs)))) ∨ (∃ a xs, x = .ref a ∧ SqL K H a xs ∧ ∀ p, H p = none → Q (.ref p) (upd H p (.lst (stpL k xs)))) ∨ (∃ z, k = .rev ∧ x = .str z ∧ z.length ≤ sizeLine ∧ Q (.str ⟨z.cps.toList.reverse.toArray⟩) H)
theorem pe_stp {e st : Expr} {lo : Option Expr} {te : TE} {p3 pos : Pos} (k : Stp) (he : PE X e te) (hl : PO X lo (fun _ H Q => Q (stpLo k) H)) (hst : PO X (some st) (fun _ H Q => Q (some (stpSt k)) H)) :
    PE X (.Subscript e (.Slice lo none (some st) p3) pos) (tUn (rStp X.K k) te) := by
  refine ⟨fun pins s σ H Q I h => ?_⟩
  refine Subscript_ (thn (he.run pins s σ H _ I h) fun v s1 ⟨x, H1, I1, r1, q1⟩ => ?_)
  refine wpAny_Slice (thn (hl.run pins s1 σ H1 (fun o H2 => o = stpLo k ∧ H2 = H1) I1 ⟨rfl, rfl⟩) fun vl s2 ⟨l, H2, I2, pl, el, e2⟩ => ?_)
  subst el e2
  refine thn (po_none.run pins s2 σ H2 (fun o H3 => o = none ∧ H3 = H2) I2 ⟨rfl, rfl⟩) fun vu s3 ⟨u, H3, I3, pu, eu, e3⟩ => ?_
  subst eu e3
  refine thn (hst.run pins s3 σ H3 (fun o H4 => o = some (stpSt k) ∧ H4 = H3) I3 ⟨rfl, rfl⟩) fun vs s4 ⟨o, H4, I4, ps, eo, e4⟩ => ?_
  subst eo e4
  have I5 : Inv X pins σ H4 { s4 with heap := s4.heap.push { cls := .type "slice", data := .fields #[vl, vu, vs] } } := I4.kept (t' := s4.toks) fun b ob q => Heap.get?_push_of_some _ q
  have hne : some (stpSt k) ≠ some 0 := by cases k <;> decide
  cases pu
  rcases q1 with ⟨a, xs, ex, hx, q⟩ | ⟨a, xs, ex, hx, q⟩ | ⟨z, ek, ex, hz, q⟩
  · subst ex
    cases r1
    obtain ⟨its, r, ht, hz⟩ := I5.tuple hx
    have hlen := r.length
    show wpAny (model X.prog X.w) X.A (subscriptTail e (.Slice lo none (some st) p3) (.ref a) (.ref s4.heap.objs.size)) (EP X pins σ Q) X.xe { s4 with heap := s4.heap.push { cls := .type "slice", data := .fields #[vl, .none, vs] } }
    refine tail_any (ops := [.ref a, .ref s4.heap.objs.size]) ht.typeIs (PyProof.Rows.slot_tuple_getitem.lookup) ?_ (by with_unfolding_all rfl)
    refine getItem_tuple_stp k ht (Heap.IsSliceOf.new _ vl .none vs) pl ps ?_ (by rw [List.size_toArray, ← hlen]; exact hz)
    refine ⟨.ref _, _, I5.laid (t' := s4.toks) (o := .tup (stpL k xs)) (fun b ob q => Heap.get?_push_of_some _ q) (Nat.le_refl _) ?_, rfl, q _ (I5.hok.fresh (Nat.le_refl _))⟩
    exact ⟨Nat.le_trans (stpL_len k xs) hz, _, vals_stp k r, IsTup.new _ _⟩
  · subst ex
    cases r1
    obtain ⟨its, r, ht, hz⟩ := I5.list hx
    have hlen := r.length
    show wpAny (model X.prog X.w) X.A (subscriptTail e (.Slice lo none (some st) p3) (.ref a) (.ref s4.heap.objs.size)) (EP X pins σ Q) X.xe { s4 with heap := s4.heap.push { cls := .type "slice", data := .fields #[vl, .none, vs] } }
    refine tail_any (ops := [.ref a, .ref s4.heap.objs.size]) ht.isList.typeIs (PySem.slot_list_getitem.lookup) ?_ (by with_unfolding_all rfl)
    refine wpAny_getItem_list_slice ht.isList (Heap.IsSliceOf.new _ vl .none vs) pl .none ps hne ?_ (by rw [List.size_toArray, ← hlen]; exact hz)
    rw [listPick_stp]
    refine ⟨.ref _, _, I5.laid (t' := s4.toks) (o := .lst (stpL k xs)) (fun b ob q => Heap.get?_push_of_some _ q) (Nat.le_refl _) ?_, rfl, q _ (I5.hok.fresh (Nat.le_refl _))⟩
    exact ⟨Nat.le_trans (stpL_len k xs) hz, _, 0, vals_stp k r, Heap.get?_push_size _ rfl⟩
  · subst ek ex
    obtain ⟨t, rfl⟩ := r1
    obtain ⟨sl, rfl, e0⟩ := IsPart.raw pl
    obtain ⟨ss, rfl, e1⟩ := IsPart.raw ps
    show wpAny (model X.prog X.w) X.A (subscriptTail e (.Slice lo none (some st) p3) (.str z t) (.ref s4.heap.objs.size)) (EP X pins σ Q) X.xe { s4 with heap := s4.heap.push { cls := .type "slice", data := .fields #[_, .none, _] } }
    refine tail_any (ops := [.str z t, .ref s4.heap.objs.size]) (typeIs_str _ _ _) (F.slot_str_getitem.lookup) ?_ (by with_unfolding_all rfl)
    refine wpAny_getItem_str_slice (l := sl) (u := none) (st := ss) ⟨_, Heap.get?_push_size _ rfl, rfl, rfl⟩ (by rw [e1]; rfl) ?_
    unfold sliceMade slicePicked
    rw [e0, e1]
    show Made.post (if ((-1 : Int) == 1 && _) = true then _ else Made.str ⟨((Builtin.Str.strSliceIndices none none (-1) z.length).filterMap (z.cps[·]?)).toArray⟩) (EP X pins σ Q) _
    rw [if_neg (by simp), rev_picked]
    exact ⟨by show z.cps.toList.reverse.toArray.size ≤ sizeLine; rw [List.size_toArray, List.length_reverse, Array.length_toList]; exact hz, .str _, H4, I5.tok _, ⟨_, rfl⟩, q⟩
theorem l_stp {e st : Expr} {lo : Option Expr} {e' : E} {p3 pos : Pos} (k : Stp) (he : PE X e (tW c X.K M e')) (hl : PO X lo (fun _ H Q => Q (stpLo k) H)) (hst : PO X (some st) (fun _ H Q => Q (some (stpSt k)) H)) :
    PE X (.Subscript e (.Slice lo none (some st) p3) pos) (tE c X.K M (.stp k e')) := pe_imp (pe_stp k he hl hst) fun σ H Q ⟨O, ρ, d, o, ee, q⟩ => by
  rw [ev] at ee
  obtain ⟨x, e1, ee⟩ := bind_ok ee
  refine ⟨O, ρ, x, o, e1, fun v H1 s1 r1 => ?_⟩
  unfold dStp at ee
  split at ee
  · obtain ⟨hl, e⟩ := ok_ite ee
    cases e
    obtain ⟨a, vs, rfl, t, r⟩ := r1.tup
    exact .inl ⟨a, vs, rfl, t.sq, fun p hp => q _ _ (s1.trans (same_new hp)) (new_tup hp (o.ext s1).dom (r.stp k))⟩
  · obtain ⟨hl, e⟩ := ok_ite ee
    cases e
    obtain ⟨a, vs, rfl, t, r⟩ := r1.lst
    exact .inr (.inl ⟨a, vs, rfl, .inl t, fun p hp => q _ _ (s1.trans (same_new hp)) (new_lst hp (o.ext s1).dom (r.stp k))⟩)
  · obtain ⟨hl, e⟩ := ok_ite ee
    cases e
    cases r1.str
    exact .inr (.inr ⟨_, hl.1, rfl, lim_line hl.2, q _ H1 s1 rp_str⟩)
  · exact nomatch ee
theorem po_neg1 {k : Nat} {p1 p2 : Pos} : PO X (some (.UnaryOp .USub (.Constant (.int 1) k p1) p2)) (fun _ H Q => Q (some (-1)) H) := po_imp (po_some (pe_un un_neg pe_int)) fun σ H Q q => ⟨1, rfl, -1, rfl, q⟩
theorem po_two {k : Nat} {p1 : Pos} : PO X (some (.Constant (.int 2) k p1)) (fun _ H Q => Q (some 2) H) := po_imp (po_some pe_int) fun σ H Q q => ⟨2, rfl, q⟩
theorem po_one {k : Nat} {p1 : Pos} : PO X (some (.Constant (.int 1) k p1)) (fun _ H Q => Q (some 1) H) := po_imp (po_some pe_int) fun σ H Q q => ⟨1, rfl, q⟩

/-! products -/
theorem rep_vals {xs : List V} {us : List Value} (n : Nat) (r : Vals xs us) : Vals (List.replicate n xs).flatten (List.replicate n us).flatten := by
  obtain ⟨ps, rfl, rfl, q⟩ := paired_zip r
  have e : ∀ {β : Type} (f : V × Value → β), (List.replicate n (ps.map f)).flatten = ((List.replicate n ps).flatten).map f := fun f => by
    rw [List.map_flatten, List.map_replicate]
  rw [e, e]
  refine paired_of fun p hp => ?_
  obtain ⟨l, hl, hp⟩ := List.mem_flatten.mp hp
  rw [(List.mem_replicate.mp hl).2] at hp
  exact q p hp
theorem op_repR : OpR X (binaryOp .Mult) (fun x y H Q => ∃ l k xs, x = .ref l ∧ y = .int k ∧ Rd H l (.lst xs) ∧ 0 ≤ k ∧ k ≤ 1000 ∧ xs.length ≤ 1000 ∧ ∀ p, H p = none → Q (.ref p) (upd H p (.lst (rep xs k)))) := by
  intro pins s σ H x y v u Q I rx ry h
  obtain ⟨l, k, xs, rfl, rfl, hH, h1, h2, hz, q⟩ := h
  cases rx
  obtain ⟨t, rfl⟩ := ry
  obtain ⟨z, its, n, r, e⟩ := rd_obj I hH
  have hl := r.length
  have hzz : its.length * k.toNat ≤ 1000 * 1000 := Nat.mul_le_mul (by omega) (by omega)
  have hmil : 1000 * 1000 ≤ sizeLine := by decide
  have hlen : its.toArray.size * k.toNat ≤ sizeLine := by rw [List.size_toArray]; omega
  have hcap : ¬ its.toArray.size * k.toNat > (2 ^ 63 - 1) / 8 := by
    have : (sizeLine : Nat) ≤ (2 ^ 63 - 1) / 8 := by decide
    omega
  have hfit : ¬ (!Builtin.List.listFitsIndex k) = true := by
    rw [fitsIndex_both (by omega) (by omega)]
    exact Bool.false_ne_true
  have hlong : ¬ Builtin.List.listTooLong (its.toArray.size * k.toNat) = true := by
    rw [notLongL hlen]
    exact Bool.false_ne_true
  have hnew : List.foldl (fun x1 x2 => x1 ++ x2) #[] (List.replicate (if its.toArray.isEmpty = true then 0 else k.toNat) its.toArray) = (List.replicate k.toNat its).flatten.toArray := by
    have f0 : ∀ m : Nat, List.foldl (fun x1 x2 => x1 ++ x2) #[] (List.replicate m its.toArray) = (List.replicate m its).flatten.toArray := fun m => by
      have := foldl_rep its m []
      rw [List.nil_append] at this
      exact this
    rw [f0]
    cases its with
    | nil => simp
    | cons a r' => rw [if_neg (by simp)]
  refine wpAny_binaryOp_repeat_ref (T := "list") (U := "int") (by decide) ⟨_, e, rfl⟩ (fun s' => typeIs_int s' k t) noFill_list_mul F.fills_int_mul F.slot_int_rmul repeat_list F.slot_int_index.lookup
    (call_meets F.slot_int_rmul (typeIs_int s k t) F.entry_int_rmul (F.args_int_rmul_2 _ _) (int___rmul___int_list k t l its.toArray n)
      ⟨e, rfl, ⟨_, e, rfl⟩, call_meets F.slot_list_mul ⟨_, e, rfl⟩ F.entry_list_mul (F.args_list_mul_2 _ _) (AutoListH.list___mul___list_int_3 l its.toArray n k t hfit hcap hlong) ⟨e, ?_⟩⟩)
  rw [hnew]
  refine ⟨.ref _, _, I.lnew (t' := s.toks) (rep_vals k.toNat r) ?_, rfl, q _ I.fresh⟩
  rw [PyProof.Rows.lm_len_rep_flat, Nat.mul_comm, hl]
  omega
/-- (a, ..) * 1 is itself, * 0 a new empty one -/
theorem tuple_mul1 (l : Addr) (items : Array Value) (n : Nat) (dd : Option Addr) (sl : Array (Option Value)) (u : Tok) :
    Meets (Builtin.«tuple.__mul__» ⟨[.ref l, .int 1 u], []⟩) (fun _ R s => s.heap.get? l = some { cls := .type "tuple", dict := dd, data := .seq items n, slots := sl } ∧ R (.ok (.ret (Value.ref l))) s) :=
  .of_wp fun prog w A R s h => by
    obtain ⟨hp, g, d, tk, os⟩ := s
    obtain ⟨hl, h⟩ := h
    have f1 := AutoSeq1.idx_int
    wp_walk using wpAny_loadPart' hl
    exact ⟨_, rfl, h⟩
theorem tuple_mul0 (l : Addr) (items : Array Value) (n : Nat) (dd : Option Addr) (sl : Array (Option Value)) (u : Tok) (c1 : (items.isEmpty || (0 : Int) == 1) = false) :
    Meets (Builtin.«tuple.__mul__» ⟨[.ref l, .int 0 u], []⟩) (fun _ R s => s.heap.get? l = some { cls := .type "tuple", dict := dd, data := .seq items n, slots := sl } ∧
      R (.ok (.ret (Value.ref s.heap.objs.size))) { s with heap := s.heap.push { cls := Value.type "tuple", data := Data.seq #[] }, toks := s.toks }) :=
  .of_wp fun prog w A R s h => by
    obtain ⟨hp, g, d, tk, os⟩ := s
    obtain ⟨hl, h⟩ := h
    have f1 := AutoSeq1.idx_int
    wp_walk using wpAny_loadPart' hl
    repeat (first
      | (refine wpAny_ite_false (decide_eq_false (by rw [c1]; exact Bool.false_ne_true)) ?_; wp_walk using wpAny_loadPart' hl))
    exact ⟨_, rfl, h⟩
theorem op_repT2 : OpR X (binaryOp .Mult) (fun x y H Q => ∃ l k xs, x = .ref l ∧ y = .int k ∧ SqT X.K H l xs ∧ xs ≠ [] ∧ ((k = 1 ∧ Q (.ref l) H) ∨ (k = 0 ∧ ∀ p, H p = none → Q (.ref p) (upd H p (.tup []))))) := by
  intro pins s σ H x y v u Q I rx ry h
  obtain ⟨l, k, xs, rfl, rfl, hT, hne, q⟩ := h
  cases rx
  obtain ⟨t, rfl⟩ := ry
  obtain ⟨its, r, ⟨⟨cls, dd, data, sl⟩, ho, hc, n, hd⟩, hs⟩ := I.tuple hT
  simp only at hc hd
  subst hc hd
  have hle : its.length = xs.length := r.length.symm
  have hi : its.toArray.isEmpty = false := by
    cases its with
    | nil => exact absurd (List.eq_nil_of_length_eq_zero hle.symm) hne
    | cons a b => rfl
  rcases q with ⟨rfl, q⟩ | ⟨rfl, q⟩
  · exact wpAny_binaryOp_repeat_ref (T := "tuple") (U := "int") (by decide) ⟨_, ho, rfl⟩ (fun s' => typeIs_int s' 1 t) noFill_tuple_mul F.fills_int_mul F.slot_int_rmul repeat_tuple F.slot_int_index.lookup
      (call_meets F.slot_int_rmul (typeIs_int s 1 t) F.entry_int_rmul (F.args_int_rmul_2 _ _) (int_rmul_tuple 1 t l its.toArray n dd sl)
        ⟨ho, rfl, ⟨_, ho, rfl⟩, call_meets F.slot_tuple_mul ⟨_, ho, rfl⟩ F.entry_tuple_mul (F.args_tuple_mul_2 _ _) (tuple_mul1 l its.toArray n dd sl t) ⟨ho, ⟨.ref l, H, I, rfl, q⟩⟩⟩)
  · refine wpAny_binaryOp_repeat_ref (T := "tuple") (U := "int") (by decide) ⟨_, ho, rfl⟩ (fun s' => typeIs_int s' 0 t) noFill_tuple_mul F.fills_int_mul F.slot_int_rmul repeat_tuple F.slot_int_index.lookup
      (call_meets F.slot_int_rmul (typeIs_int s 0 t) F.entry_int_rmul (F.args_int_rmul_2 _ _) (int_rmul_tuple 0 t l its.toArray n dd sl)
        ⟨ho, rfl, ⟨_, ho, rfl⟩, call_meets F.slot_tuple_mul ⟨_, ho, rfl⟩ F.entry_tuple_mul (F.args_tuple_mul_2 _ _) (tuple_mul0 l its.toArray n dd sl t (by rw [hi]; rfl)) ⟨ho, ?_⟩⟩)
    refine ⟨.ref s.heap.objs.size, _, I.laid (t' := s.toks) (o := .tup []) (fun b ob q => Heap.get?_push_of_some _ q) (Nat.le_refl _) ?_, rfl, q _ (I.hok.fresh (Nat.le_refl _))⟩
    exact ⟨Nat.zero_le _, [], .nil, IsTup.new _ _⟩
theorem opp_mul : Opp X (binaryOp .Mult) dMul := by
  refine ⟨_, op_mul.or (op_repT.or (op_repT2.or op_repR)), ?_⟩
  intro O H x y d v w Q hO hx hy he q
  unfold dMul at he
  split at he
  · cases hx.int
    cases hy.int
    obtain ⟨hl, e⟩ := ok_ite he
    cases e
    rw [Bool.or_eq_true] at hl
    exact .inl ⟨_, _, rfl, rfl, hl.imp small64_iff small64_iff, q _ H (Same.refl H) rp_int⟩
  · obtain ⟨a, vs, rfl, ta, ra⟩ := hx.tup
    cases hy.int
    obtain ⟨⟨h1, h2, h3, h4⟩, e⟩ := ok_ite he
    cases e
    rename_i ds k
    have hlen := ra.length
    have hne : vs ≠ [] := fun z => h1 (List.eq_nil_of_length_eq_zero (by rw [hlen, z]; rfl))
    by_cases hk : 2 ≤ k
    · exact .inr (.inl ⟨a, k, vs, rfl, rfl, ta.sq, hne, hk, h2, by omega, fun p hp => q _ _ (same_new hp) (new_tup hp hO (ra.rep k))⟩)
    · refine .inr (.inr (.inl ⟨a, k, vs, rfl, rfl, ta.sq, hne, ?_⟩))
      by_cases hk1 : k = 1
      · refine .inl ⟨hk1, q _ H (Same.refl H) ?_⟩
        subst hk1
        rw [show rep ds 1 = ds by simp [rep], Rp]
        exact ⟨a, vs, rfl, ta, ra⟩
      · have hk0 : k = 0 := by omega
        refine .inr ⟨hk0, fun p hp => q _ _ (same_new hp) ?_⟩
        subst hk0
        rw [show rep ds 0 = [] by simp [rep]]
        exact new_tup hp hO RpL.nil
  · obtain ⟨a, vs, rfl, ta, ra⟩ := hx.lst
    cases hy.int
    obtain ⟨⟨h2, h3, h4⟩, e⟩ := ok_ite he
    cases e
    have hlen := ra.length
    exact .inr (.inr (.inr ⟨a, _, vs, rfl, rfl, ta, h4, h2, by omega, fun p hp => q _ _ (same_new hp) (new_lst hp hO (ra.rep _))⟩))
  · exact nomatch he
theorem opp_bin (op : Operator) (h : op = .Add ∨ op = .Sub ∨ op = .Mult ∨ op = .FloorDiv ∨ op = .Mod ∨ op = .Pow) : Opp X (binaryOp op) (dBin op) := by
  rcases h with rfl | rfl | rfl | rfl | rfl | rfl
  · exact opp_add
  · exact opp_sub
  · exact opp_mul
  · exact opp_div
  · exact opp_mod
  · exact opp_pow
theorem opp_cmp (hu : X.A.units + 65 < cLine) (op : CmpOp) : Opp X (compareOp op) (dCmp op) := by
  cases op with
  | Eq => exact opp_eq (by omega)
  | NotEq => exact opp_ne (by omega)
  | Lt => exact opp_ord op_lt
  | LtE => exact opp_ord op_le
  | Gt => exact opp_ord op_gt
  | GtE => exact opp_ord op_ge
  | Is => exact opp_is
  | IsNot => exact opp_isnot
  | In => exact opp_in hu
  | NotIn => exact opp_notIn hu
end
end LC

set_option Elab.async false
set_option linter.all false
set_option maxRecDepth 100000
set_option maxHeartbeats 1000000
/-! LC: what is walked -/
namespace LC
open PySem PySem.Spec PyProof.Rows L2
inductive Kd where
  | l | t
def SqK (K : PySem.W.Frag) (H : Hp) (k : Kd) (a : Addr) (xs : List V) : Prop := match k with
  | .l => SqL K H a xs
  | .t => SqT K H a xs
def ObK (h : Heap) (k : Kd) (a : Addr) (its : Array Value) : Prop := match k with
  | .l => h.IsList a its
  | .t => h.IsTuple a its
def ItK (h : Heap) (k : Kd) (it a : Addr) (i : Nat) : Prop := match k with
  | .l => h.IsListIter it a i
  | .t => h.IsTupleIter it a i
def oK (k : Kd) (a : Addr) : Obj := match k with
  | .l => { cls := .type "list_iterator", data := .fields #[.ref a, .int 0 0] }
  | .t => { cls := .type "tuple_iterator", data := .fields #[.ref a, .int 0 0] }
theorem drawsK {prog : Program} {w : World} {A : Around} (hh : A.handled = none) (k : Kd) (it a : Addr) (hne : a ≠ it) (items : Array Value) :
    Draws prog w A it [it, a] items.size (fun i v => items[i]? = some v) (fun i h => ItK h k it a i ∧ ObK h k a items) := by
  cases k with
  | l => exact Draws.list hh it a hne items
  | t => exact Draws.tuple hh it a hne items
theorem begK (k : Kd) (a : Addr) (items : Array Value) : Begins (.ref a) (oK k a) fun h => ObK h k a items := by
  cases k with
  | l => exact begins_list a items
  | t => exact begins_tuple a items
theorem itK_new {h : Heap} {k : Kd} {it a : Addr} (e : h.get? it = some (oK k a)) : ItK h k it a 0 := by
  cases k with
  | l => exact ⟨_, e, rfl, rfl⟩
  | t => exact ⟨_, e, rfl, rfl⟩
theorem itK_obj {h : Heap} {k : Kd} {it a : Addr} {i : Nat} (st : ItK h k it a i) : ∃ o, h.get? it = some o ∧ ∀ v, o.data ≠ .cell v := by
  cases k with
  | l => obtain ⟨o, ho, hc, hd⟩ := st; exact ⟨o, ho, fun v q => by rw [hd] at q; cases q⟩
  | t => obtain ⟨o, ho, hc, hd⟩ := st; exact ⟨o, ho, fun v q => by rw [hd] at q; cases q⟩
theorem itK_at {h h' : Heap} {k : Kd} {it a : Addr} {i : Nat} (st : ItK h k it a i) (kp : ∀ o, h.get? it = some o → h'.get? it = some o) : ItK h' k it a i := by
  cases k with
  | l => obtain ⟨o, ho, r⟩ := st; exact ⟨o, kp o ho, r⟩
  | t => obtain ⟨o, ho, r⟩ := st; exact ⟨o, kp o ho, r⟩
section
variable {X : Cx} {pins : List (Addr × Obj)} {σ : L2.St} {H : Hp} {s : Shared} {k : Kd} {a : Addr} {xs ys : List V}
theorem inv_seq (I : Inv X pins σ H s) (h : SqK X.K H k a xs) : ∃ its : List Value, Vals xs its ∧ ObK s.heap k a its.toArray ∧ xs.length ≤ sizeLine := by
  cases k with
  | l => obtain ⟨its, r, p, z⟩ := I.list h; exact ⟨its, r, p.isList, z⟩
  | t => obtain ⟨its, r, p, z⟩ := I.tuple h; exact ⟨its, r, p, z⟩
theorem inv_seq_inj (I : Inv X pins σ H s) (h : SqK X.K H k a xs) (h' : SqK X.K H k a ys) : xs = ys := by
  cases k with
  | l => exact I.list_inj h h'
  | t => exact I.tuple_inj h h'
theorem obK_lt {h : Heap} {its : Array Value} (p : ObK h k a its) : a < h.objs.size := by
  cases k with
  | l => obtain ⟨o, e, _⟩ := p; exact Heap.lt_size e
  | t => obtain ⟨o, e, _⟩ := p; exact Heap.lt_size e
end
/-! enumerate -/
set_option maxHeartbeats 4000000 in
theorem meets_enum1 {v : Value} {o : Obj} {H : Heap → Prop} (B : Begins v o H) :
    Meets (Builtin.«enumerate.__new__» ⟨[.type "enumerate", v], []⟩) (fun _ R s => H s.heap ∧
      R (.ok (.ret (.ref (s.heap.push o).objs.size))) { s with heap := (s.heap.push o).push { cls := .type "enumerate", data := .fields #[.none, .bool false, .ref s.heap.objs.size, rawInt 0, .none, .none] } }) :=
  .of_wp fun prog w A R s h => by
    obtain ⟨hp, g, d, tk, os⟩ := s
    obtain ⟨h1, h⟩ := h
    have hsub := sub_enumerate
    have q1 : ∀ {A' : Around} {E : Value → Shared → Prop} {Q : Value → Shared → Prop}, Q (.ref hp.objs.size) ⟨hp.push o, g, d, tk, os⟩ → wpAny (model prog w) A' (pyIter v) Q E ⟨hp, g, d, tk, os⟩ :=
      fun q => B.iter prog w _ _ ⟨hp, g, d, tk, os⟩ _ h1 q
    wp_walk using q1
    refine wpAny_stack_any fun st => wpAny_pure ?_
    split
    · rename_i c _ _ _ _ _
      cases (c == Value.type "enumerate")
      · wp_walk using q1
        exact ⟨_, rfl, h⟩
      · wp_walk using q1
        exact ⟨_, rfl, h⟩
    · wp_walk using q1
      exact ⟨_, rfl, h⟩
theorem enum_begins1 {prog : Program} {w : World} {A : Around} {E : Value → Shared → Prop} {s : Shared} {v : Value} {o : Obj} {H : Heap → Prop} {Q : Value → Shared → Prop} (B : Begins v o H) (h1 : H s.heap)
    (h : ∀ h', IsEnum h' (s.heap.objs.size + 1) s.heap.objs.size 0 .none → h'.get? s.heap.objs.size = some o → h'.objs.size = s.heap.objs.size + 2 → (∀ b o, s.heap.get? b = some o → h'.get? b = some o) → Q (.ref (s.heap.objs.size + 1)) { s with heap := h' }) :
    wpAny (model prog w) A (PySem.call (.type "enumerate") [v]) Q E s := by
  refine callType_new F.called_enumerate (by decide) (F.typeCall_enumerate_1 _) (F.newCall_enumerate_1 _) (fun obj => F.args_object_init_2 obj _) F.entry_enumerate_new (meets_enum1 B) ⟨h1, ?_⟩
  have hz : (s.heap.push o).objs.size = s.heap.objs.size + 1 := Heap.size_push ..
  show _ ∧ _
  rw [hz]
  have he : IsEnum ((s.heap.push o).push { cls := .type "enumerate", data := .fields #[.none, .bool false, .ref s.heap.objs.size, rawInt 0, .none, .none] }) (s.heap.objs.size + 1) s.heap.objs.size 0 .none := by
    have := Heap.get?_push_size (s.heap.push o) (o := { cls := .type "enumerate", data := .fields #[.none, .bool false, .ref s.heap.objs.size, rawInt 0, .none, .none] }) rfl
    rw [hz] at this
    exact this
  exact ⟨⟨_, he, rfl⟩, h _ he (Heap.get?_push_of_some _ (Heap.get?_push_size _ B.free)) (by rw [Heap.size_push, hz]) fun b o x => Heap.get?_push_of_some _ (Heap.get?_push_of_some _ x)⟩
def IteK (K : PySem.W.Frag) (k : Kd) (a : Addr) : It :=
  ⟨fun i H => ∃ (xs : List V) (x : V), SqK K H k a xs ∧ xs[i]? = some x, fun i H v H' => ∃ T x, v = .ref T ∧ H T = none ∧ H' = upd H T (.tup [.int (i : Nat), x]) ∧ ∀ xs, SqK K H k a xs → xs[i]? = some x, fun i H => ∃ xs : List V, SqK K H k a xs ∧ xs.length = i⟩
theorem turn_enumK {P : Program} {w : World} {K : PySem.W.Frag} {elts : List Expr} {kk : Nat} {tpos : Pos} (k : Kd) (a e it : Addr) (hne : e ≠ it) (hea : e ≠ a) (hai : a ≠ it) :
    Turn P w K (.Tuple elts kk tpos) (IteK K k a) [e, it] e (fun i h => (∃ old, IsEnum h e it ((i : Nat) : Int) old) ∧ ItK h k it a i) where
  mem := by simp
  obj := fun i h st b hb => by
    obtain ⟨⟨old, he⟩, hit⟩ := st
    have e' : b = e ∨ b = it := by simpa using hb
    rcases e' with z | z
    · rw [z]
      exact ⟨_, he, fun v q => nomatch q⟩
    · rw [z]
      exact itK_obj hit
  keep := fun i h h' st kp => let ⟨⟨old, he⟩, hi⟩ := st; ⟨⟨old, kp e (by simp) _ he⟩, itK_at hi fun o q => kp it (by simp) o q⟩
  item := by
    intro X hP hw hK hc i pins s σ H E I hf st hg
    subst hP hw hK
    obtain ⟨⟨old, he⟩, hit⟩ := st
    obtain ⟨xs, x, hq, hx⟩ := hg
    obtain ⟨its, rv, p, hz⟩ := inv_seq I hq
    obtain ⟨u, hu, ru⟩ := rv.get hx
    have hel : e < s.heap.objs.size := Heap.lt_size he
    have hil : it < s.heap.objs.size := by obtain ⟨_, q, _⟩ := itK_obj hit; exact Heap.lt_size q
    have Dr := drawsK (prog := X.prog) (w := X.w) (A := X.A.in1) (I.ok.hd hc) k it a hai its.toArray
    have hlt : i < its.toArray.size := by
      rw [List.size_toArray]
      exact (List.getElem?_eq_some_iff.mp hu).1
    refine wpAny_pyNext_enum_itemD Dr he ⟨hit, p⟩ hlt hne (by simp [hne, hea]) fun y h' tk hP ho st' hT hsz hk => ?_
    have ey : y = u := by
      have hP' : its.toArray[i]? = some y := hP
      rw [List.getElem?_toArray, hu] at hP'
      exact (Option.some.inj hP').symm
    subst ey
    refine ⟨_, rfl, wpAny_letOwnedTupleGo_enum (s := { s with heap := h', toks := tk + 1 }) ho fun h'' he' sb => ?_⟩
    have hT2 : h''.get? s.heap.objs.size = some { cls := .type "tuple", data := .seq #[.int i tk, y] } := (sb.2 _ (Nat.ne_of_gt hel)).trans hT
    have new : ObjOk X.prog X.w (upd H s.heap.objs.size (.tup [.int (i : Nat), x])) h'' s.heap.objs.size (.tup [.int (i : Nat), x]) :=
      ⟨by show 2 ≤ sizeLine; decide, [.int i tk, y], .cons ⟨_, rfl⟩ (.cons ru .nil), ⟨_, hT2, rfl, _, rfl⟩⟩
    have I1 : Inv X pins σ (upd H s.heap.objs.size (.tup [.int (i : Nat), x])) { s with heap := h'', toks := tk + 1 } :=
      I.turnedNew (ch := [e, it]) (fun b ob hb q => (sb.2 b (fun z => hb (by simp [z]))).trans (hk b ob (fun z => hb (by simp [z])) (fun z => hb (by simp [z])) q)) hf (Nat.le_refl _) new
    refine ⟨.ref s.heap.objs.size, _, I1, rfl, ⟨_, x, rfl, I.hok.fresh (Nat.le_refl _), rfl, fun ys hy => by rw [inv_seq_inj I hy hq]; exact hx⟩, ⟨⟨y, ?_⟩, itK_at st'.1 fun o q => (sb.2 it (Ne.symm hne)).trans q⟩, fun b hb => ?_⟩
    · have e1 : ((i + 1 : Nat) : Int) = (i : Int) + 1 := by omega
      rw [e1]
      exact he'
    · have hb' : b < s.heap.objs.size := by
        have e' : b = e ∨ b = it := by simpa using hb
        rcases e' with z | z
        · rw [z]; exact hel
        · rw [z]; exact hil
      rw [upd_ne (Nat.ne_of_lt hb')]
      exact (hf b hb).1
  done := by
    intro X hP hw hK hc i pins s σ H E I hf st hg
    subst hP hw hK
    obtain ⟨⟨old, he⟩, hit⟩ := st
    obtain ⟨xs, hq, hx⟩ := hg
    obtain ⟨its, rv, p, hz⟩ := inv_seq I hq
    obtain ⟨f0, f1, f2, f3, f4, f5⟩ := hf it (by simp)
    have hl := rv.length
    have Dr := drawsK (prog := X.prog) (w := X.w) (A := X.A.in1) (I.ok.hd hc) k it a hai its.toArray
    have hn : its.toArray.size = i := by rw [List.size_toArray]; omega
    exact wpAny_pyNext_enum_endD Dr he (by rw [hn]; exact ⟨hit, p⟩) fun h' eb => ⟨rfl, I.turned (t' := s.toks) (fun b o hb q => eb b o hb q) f0 f1 f3 f4 f5⟩
  self := fun A i s Q E st h => let ⟨⟨_, he⟩, _⟩ := st; wpAny_pyIter_enum he h
def iEnumK (K : PySem.W.Frag) (ta : TA) : TI := fun σ H R => ta σ H fun vs H1 => ∃ k a xs, vs = [.ref a] ∧ SqK K H1 k a xs ∧ R (IteK K k a) H1
theorem pi_enumK {X : Cx} {e : Expr} {ta : TA} {p pos tpos : Pos} {elts : List Expr} {kk : Nat} (hg : Gl X "enumerate") (hm : X.mg "enumerate" = none) (ha : PA X [e] ta) (hs : starEach [e] X.env = [(false, eval e X.env)]) :
    PI X (.Tuple elts kk tpos) (.Call (.Name "enumerate" p) [e] [] pos) (iEnumK X.K ta) := by
  refine ⟨fun pins s σ H R I h => ?_⟩
  refine Call_ (ld_blt I hg hm boot_enumerate (PyProof.Rows.callWith_type1 (thn (ha.run pos pins s σ H _ I h) fun us s1 ⟨vs, H1, I1, r1, q1⟩ => ?_) hs rfl))
  obtain ⟨k, a, xs, ex, hq, q⟩ := q1
  subst ex
  cases r1 with
  | cons r rr =>
    cases rr
    cases r
    obtain ⟨its, rv, p', hz⟩ := inv_seq I1 hq
    have hlt := obK_lt p'
    refine enum_begins1 (begK k a its.toArray) p' fun h' he hit hsz hk => wpAny_pyIter_enum he ?_
    have I2 : Inv X pins σ H1 { s1 with heap := h' } := I1.kept (t' := s1.toks) hk
    refine ⟨s1.heap.objs.size + 1, [s1.heap.objs.size + 1, s1.heap.objs.size], _, _, H1, rfl, I2, turn_enumK k a (s1.heap.objs.size + 1) s1.heap.objs.size (Nat.succ_ne_self _) (Nat.ne_of_gt (Nat.lt_succ_of_lt hlt)) (Nat.ne_of_lt hlt), ⟨⟨.none, he⟩, itK_new hit⟩, fun b hb => ?_, q⟩
    have e' : b = s1.heap.objs.size + 1 ∨ b = s1.heap.objs.size := by simpa using hb
    have hle : s1.heap.objs.size ≤ b := by
      rcases e' with z | z
      · rw [z]; exact Nat.le_add_right _ _
      · rw [z]; exact Nat.le_refl _
    exact I1.fpOk hle (I1.hok.fresh hle)
/-! zip -/
def ItzK (K : PySem.W.Frag) (k k' : Kd) (a b : Addr) : It :=
  ⟨fun i H => ∃ (xs ys : List V) (x y : V), SqK K H k a xs ∧ SqK K H k' b ys ∧ xs[i]? = some x ∧ ys[i]? = some y,
    fun i H v H' => ∃ T x y, v = .ref T ∧ H T = none ∧ H' = upd H T (.tup [x, y]) ∧ (∀ xs, SqK K H k a xs → xs[i]? = some x) ∧ ∀ ys, SqK K H k' b ys → ys[i]? = some y,
    fun i H => ∃ xs ys : List V, SqK K H k a xs ∧ SqK K H k' b ys ∧ i = min xs.length ys.length⟩
theorem turn_zipK {P : Program} {w : World} {K : PySem.W.Frag} {elts : List Expr} {kk : Nat} {tpos : Pos} (k k' : Kd) {a b z TI TO i1 i2 : Addr} (S : ZipSep2 z TI TO i1 i2 [i1, a] [i2, b]) (ha : a ≠ i1) (hb : b ≠ i2) :
    Turn P w K (.Tuple elts kk tpos) (ItzK K k k' a b) [z, TI, TO, i1, i2] z (fun i h => IsZip h z TI TO .none ∧ IsTupOf2 h TI (.ref i1) (.ref i2) ∧ (∃ x y, IsTupOf2 h TO x y) ∧ ItK h k i1 a i ∧ ItK h k' i2 b i) where
  mem := by simp
  obj := fun i h st c hc => by
    obtain ⟨hz, hTI, ⟨x, y, hTO⟩, h1, h2⟩ := st
    have e' : c = z ∨ c = TI ∨ c = TO ∨ c = i1 ∨ c = i2 := by simpa using hc
    rcases e' with q | q | q | q | q
    · rw [q]; exact ⟨_, hz, fun v q => nomatch q⟩
    · rw [q]; exact ⟨_, hTI, fun v q => nomatch q⟩
    · rw [q]; exact ⟨_, hTO, fun v q => nomatch q⟩
    · rw [q]; exact itK_obj h1
    · rw [q]; exact itK_obj h2
  keep := fun i h h' st kp => by
    obtain ⟨hz, hTI, ⟨x, y, hTO⟩, h1, h2⟩ := st
    exact ⟨kp z (by simp) _ hz, kp TI (by simp) _ hTI, ⟨x, y, kp TO (by simp) _ hTO⟩, itK_at h1 fun o q => kp i1 (by simp) o q, itK_at h2 fun o q => kp i2 (by simp) o q⟩
  item := by
    intro X hP hw hK hc i pins s σ H E I hf st hg
    subst hP hw hK
    obtain ⟨hz, hTI, ⟨x0, y0, hTO⟩, h1, h2⟩ := st
    obtain ⟨xs, ys, x, y, hqx, hqy, hx, hy⟩ := hg
    obtain ⟨its, rv, p, _⟩ := inv_seq I hqx
    obtain ⟨its2, rv2, p2, _⟩ := inv_seq I hqy
    obtain ⟨u, hu, ru⟩ := rv.get hx
    obtain ⟨u2, hu2, ru2⟩ := rv2.get hy
    have hzl : z < s.heap.objs.size := Heap.lt_size hz
    have D1 := drawsK (prog := X.prog) (w := X.w) (A := X.A.in1) (I.ok.hd hc) k i1 a ha its.toArray
    have D2 := drawsK (prog := X.prog) (w := X.w) (A := X.A.in1) (I.ok.hd hc) k' i2 b hb its2.toArray
    have hlt1 : i < its.toArray.size := by rw [List.size_toArray]; exact (List.getElem?_eq_some_iff.mp hu).1
    have hlt2 : i < its2.toArray.size := by rw [List.size_toArray]; exact (List.getElem?_eq_some_iff.mp hu2).1
    refine wpAny_pyNext_zipD2_item S D1 D2 hz hTI hTO ⟨h1, p⟩ ⟨h2, p2⟩ hlt1 hlt2 fun y1 y2 h' tk hP1 hP2 z' TO' d1 d2 hT hsz hk => ?_
    have e1 : y1 = u := by
      have q : its.toArray[i]? = some y1 := hP1
      rw [List.getElem?_toArray, hu] at q
      exact (Option.some.inj q).symm
    have e2 : y2 = u2 := by
      have q : its2.toArray[i]? = some y2 := hP2
      rw [List.getElem?_toArray, hu2] at q
      exact (Option.some.inj q).symm
    subst e1 e2
    refine ⟨_, rfl, wpAny_letOwnedTupleGo_zip (s := { s with heap := h', toks := tk }) z' fun h'' z'' sb => ?_⟩
    have hT2 : h''.get? s.heap.objs.size = some { cls := .type "tuple", data := .seq #[y1, y2] } := (sb.2 _ (Nat.ne_of_gt hzl)).trans hT
    have new : ObjOk X.prog X.w (upd H s.heap.objs.size (.tup [x, y])) h'' s.heap.objs.size (.tup [x, y]) :=
      ⟨by show 2 ≤ sizeLine; decide, [y1, y2], .cons ru (.cons ru2 .nil), ⟨_, hT2, rfl, _, rfl⟩⟩
    have I1 : Inv X pins σ (upd H s.heap.objs.size (.tup [x, y])) { s with heap := h'', toks := tk } :=
      I.turnedNew (ch := [z, TI, TO, i1, i2]) (fun c o hb q => (sb.2 c (fun q' => hb (by simp [q']))).trans (hk c o (fun q' => hb (by simp [q'])) (fun q' => hb (by simp [q'])) (fun q' => hb (by simp [q'])) (fun q' => hb (by simp [q'])) q)) hf (Nat.le_refl _) new
    refine ⟨.ref s.heap.objs.size, _, I1, rfl, ⟨_, x, y, rfl, I.hok.fresh (Nat.le_refl _), rfl, fun l hl => by rw [inv_seq_inj I hl hqx]; exact hx, fun l hl => by rw [inv_seq_inj I hl hqy]; exact hy⟩, ⟨z'', ?_, ⟨y1, y2, ?_⟩, ?_, ?_⟩, fun c hcm => ?_⟩
    · exact (sb.2 _ S.TIz).trans (hk _ _ S.TIz S.TITO S.TIi1 S.TIi2 hTI)
    · exact (sb.2 _ S.TOz).trans TO'
    · exact itK_at d1.1 fun o q => (sb.2 _ (Ne.symm S.zi1)).trans q
    · exact itK_at d2.1 fun o q => (sb.2 _ (Ne.symm S.zi2)).trans q
    · have hlt : c < s.heap.objs.size := by
        have e' : c = z ∨ c = TI ∨ c = TO ∨ c = i1 ∨ c = i2 := by simpa using hcm
        rcases e' with q | q | q | q | q
        · rw [q]; exact hzl
        · rw [q]; exact Heap.lt_size hTI
        · rw [q]; exact Heap.lt_size hTO
        · rw [q]; obtain ⟨_, e1, _⟩ := itK_obj h1; exact Heap.lt_size e1
        · rw [q]; obtain ⟨_, e2, _⟩ := itK_obj h2; exact Heap.lt_size e2
      rw [upd_ne (Nat.ne_of_lt hlt)]
      exact (hf c hcm).1
  done := by
    intro X hP hw hK hc i pins s σ H E I hf st hg
    subst hP hw hK
    obtain ⟨hz, hTI, ⟨x0, y0, hTO⟩, h1, h2⟩ := st
    obtain ⟨xs, ys, hqx, hqy, hend⟩ := hg
    obtain ⟨its, rv, p, _⟩ := inv_seq I hqx
    obtain ⟨its2, rv2, p2, _⟩ := inv_seq I hqy
    have l1 := rv.length
    have l2 := rv2.length
    have D1 := drawsK (prog := X.prog) (w := X.w) (A := X.A.in1) (I.ok.hd hc) k i1 a ha its.toArray
    have D2 := drawsK (prog := X.prog) (w := X.w) (A := X.A.in1) (I.ok.hd hc) k' i2 b hb its2.toArray
    exact wpAny_pyNext_zipD2_end (i := i) S D1 D2 hz hTI hTO ⟨h1, p⟩ ⟨h2, p2⟩ (by rw [List.size_toArray]; omega) (by rw [List.size_toArray]; omega) (by rw [List.size_toArray, List.size_toArray]; omega) fun h' tk hk => ⟨rfl, I.turnedL (ch := [z, TI, TO, i1, i2]) (fun c o hb q =>
      hk c o (fun q' => hb (by simp [q'])) (fun q' => hb (by simp [q'])) (fun q' => hb (by simp [q'])) (fun q' => hb (by simp [q'])) q) hf⟩
  self := fun A i s Q E st h => wpAny_pyIter_zip st.1 h
def iZipK (K : PySem.W.Frag) (ta : TA) : TI := fun σ H R => ta σ H fun vs H1 => ∃ k k' a b xs ys, vs = [.ref a, .ref b] ∧ SqK K H1 k a xs ∧ SqK K H1 k' b ys ∧ R (ItzK K k k' a b) H1
theorem pi_zipK {X : Cx} {e e2 : Expr} {ta : TA} {p pos tpos : Pos} {elts : List Expr} {kk : Nat} (hg : Gl X "zip") (hm : X.mg "zip" = none) (ha : PA X [e, e2] ta)
    (hs : starEach [e, e2] X.env = (false, eval e X.env) :: starEach [e2] X.env) (hpl : (backTo pos (starEach [e2] X.env)).any (·.1) = false) :
    PI X (.Tuple elts kk tpos) (.Call (.Name "zip" p) [e, e2] [] pos) (iZipK X.K ta) := by
  refine ⟨fun pins s σ H R I h => ?_⟩
  refine Call_ (ld_blt I hg hm PyProof.Rows.boot_zip (PyProof.Rows.callWith_type1 (thn (ha.run pos pins s σ H _ I h) fun us s1 ⟨vs, H1, I1, r1, q1⟩ => ?_) hs hpl))
  obtain ⟨k, k', a, b, xs, ys, ex, hqx, hqy, q⟩ := q1
  subst ex
  cases r1 with
  | cons r rr =>
    cases rr with
    | cons r' rr =>
      cases rr
      cases r
      cases r'
      obtain ⟨its, rv, p1, _⟩ := inv_seq I1 hqx
      obtain ⟨its2, rv2, p2, _⟩ := inv_seq I1 hqy
      have la := obK_lt p1
      have lb := obK_lt p2
      refine zip_begins2 (begK k a its.toArray) (begK k' b its2.toArray) p1 p2 fun h' hz hTI hTO h1 h2 hsz hk => wpAny_pyIter_zip hz ?_
      have I2 : Inv X pins σ H1 { s1 with heap := h' } := I1.kept (t' := s1.toks) hk
      have S := zip_sep2 (N := s1.heap.objs.size) (fp1 := [a]) (fp2 := [b]) (fun c hc => by rw [List.mem_singleton.mp hc]; exact la) (fun c hc => by rw [List.mem_singleton.mp hc]; exact lb)
      refine ⟨s1.heap.objs.size + 4, [s1.heap.objs.size + 4, s1.heap.objs.size + 2, s1.heap.objs.size + 3, s1.heap.objs.size, s1.heap.objs.size + 1], _, _, H1, rfl, I2, turn_zipK k k' S (Nat.ne_of_lt la) (Nat.ne_of_lt (Nat.lt_succ_of_lt lb)), ⟨hz, hTI, ⟨_, _, hTO⟩, itK_new h1, itK_new h2⟩, fun c hcm => ?_, q⟩
      have e' : c = s1.heap.objs.size + 4 ∨ c = s1.heap.objs.size + 2 ∨ c = s1.heap.objs.size + 3 ∨ c = s1.heap.objs.size ∨ c = s1.heap.objs.size + 1 := by simpa using hcm
      have hle : s1.heap.objs.size ≤ c := by
        rcases e' with z | z | z | z | z
        · rw [z]; exact Nat.le_add_right _ _
        · rw [z]; exact Nat.le_add_right _ _
        · rw [z]; exact Nat.le_add_right _ _
        · rw [z]; exact Nat.le_refl _
        · rw [z]; exact Nat.le_add_right _ _
      exact I1.fpOk hle (I1.hok.fresh hle)
end LC

set_option Elab.async false
set_option linter.all false
set_option maxRecDepth 100000
set_option maxHeartbeats 1000000
/-! LC: sources of loops -/
namespace LC
open PySem PySem.Spec PyProof.Rows L2
def ItS (K : PySem.W.Frag) (k : Kd) (a : Addr) : It := match k with
  | .l => Itl K a
  | .t => Itt K a
def iAny (K : PySem.W.Frag) (te : TE) : TI := fun σ H R => te σ H fun x H1 => (∃ k a xs, x = .ref a ∧ SqK K H1 k a xs ∧ R (ItS K k a) H1) ∨ ∃ z, x = .str z ∧ R (Its z) H1
theorem pi_any {X : Cx} {tg e : Expr} {te : TE} (he : PE X e te) : PI X tg e (iAny X.K te) := by
  refine ⟨fun pins s σ H R I h => ?_⟩
  refine thn (he.run pins s σ H _ I h) fun v s1 ⟨x, H1, I1, r1, q1⟩ => ?_
  rcases q1 with ⟨k, a, xs, e, hq, q⟩ | ⟨x, ex, q⟩
  · subst e
    cases r1
    cases k with
    | l =>
      obtain ⟨its, rv, p, hz⟩ := I1.list hq
      exact wpAny_pyIter_list p.isList (pi_one (tk := s1.toks) I1 _ (turn_list a _) ⟨_, Heap.get?_push_size _ rfl, rfl, rfl⟩ q)
    | t =>
      obtain ⟨its, rv, p, hz⟩ := I1.tuple hq
      exact wpAny_pyIter_tuple (show s1.heap.IsTuple a its.toArray from p) (pi_one (tk := s1.toks) I1 _ (turn_tuple a _) ⟨_, Heap.get?_push_size _ rfl, rfl, rfl⟩ q)
  · subst ex
    obtain ⟨t, rfl⟩ := r1
    cases ha : x.cps.all (· < 128)
    · exact wpAny_pyIter_wide ha (pi_one (tk := s1.toks) I1 _ (turn_str _ x t "str_iterator" (.inr rfl)) ⟨_, Heap.get?_push_size _ rfl, rfl, rfl⟩ q)
    · exact wpAny_pyIter_ascii ha (pi_one (tk := s1.toks) I1 _ (turn_str _ x t "str_ascii_iterator" (.inl rfl)) ⟨_, Heap.get?_push_size _ rfl, rfl, rfl⟩ q)

/-- what a walk gives at later heaps -/
structure Wk (K : PySem.W.Frag) (Rel : (Addr → Prop) → Hp → Prop) (J : It) (its : List D) : Prop where
  go : ∀ O H i, Rel O H → i < its.length → J.go i H
  stop : ∀ O H, Rel O H → J.stop its.length H
  yld : ∀ (O : Addr → Prop) H i x H' d, Rel O H → (∀ b, O b → H b ≠ none) → its[i]? = some d → J.yld i H x H' → Same H H' ∧ Rp K O H' d x

/-- later: nothing but the owned has changed; or all is as it was, and more -/
def SrcRel (b : Bool) (O : Addr → Prop) (H : Hp) : (Addr → Prop) → Hp → Prop := fun O' H' => match b with
  | true => Keep O O' H H'
  | false => Keep O O' H H' ∧ Same H H'
def RpB (b : Bool) (K : PySem.W.Frag) (O : Addr → Prop) (H : Hp) (d : D) (v : V) : Prop := match b with
  | true => Rp K O H d v
  | false => RpW K O H d v
section
variable {K : PySem.W.Frag} {O : Addr → Prop} {H : Hp} {b : Bool}
theorem RpB.w {d : D} {v : V} (h : RpB b K O H d v) : RpW K O H d v := by
  cases b with
  | true => exact Rp.w h
  | false => exact h
theorem rpb_seq {d : D} {v : V} {ds : List D} (h : RpB b K O H d v) (e : seqOf d = some ds) :
    ∃ k a vs, v = .ref a ∧ SqK K H k a vs ∧ ∀ O' H', SrcRel b O H O' H' → SqK K H' k a vs ∧ RpL K O' H' ds vs := by
  cases d with
  | tup es =>
    cases e
    obtain ⟨a, vs, rfl, t, r⟩ := h.w.tup
    refine ⟨.t, a, vs, rfl, t.sq, fun O' H' rel => ?_⟩
    cases b with
    | true => exact ⟨(Keep.tupAt rel t).sq, Keep.rpl rel _ _ r⟩
    | false =>
      exact ⟨(Keep.tupAt rel.1 t).sq, Keep.rpl rel.1 _ _ r⟩
  | lst es =>
    cases e
    cases b with
    | true =>
      have h' : Rp K O H (.lst _) v := h
      rw [Rp] at h'
      obtain ⟨a, vs, rfl, t, r⟩ := h'
      exact ⟨.l, a, vs, rfl, t.sq, fun O' H' rel => ⟨(Keep.lstAt rel t).sq, Keep.rpl rel _ _ r⟩⟩
    | false =>
      obtain ⟨a, vs, rfl, t, r⟩ := RpW.lst h
      refine ⟨.l, a, vs, rfl, .inl t, fun O' H' rel => ?_⟩
      refine ⟨.inl ?_, Keep.rpl rel.1 _ _ r⟩
      rcases t with t | ⟨o, t⟩
      · exact .inl (rel.2 _ _ t)
      · exact .inr ⟨o, rel.2 _ _ t⟩
  | _ => exact nomatch e
theorem sqk_inj_le {k : Kd} {a : Addr} {vs : List V} (h : SqK K H k a vs) : True := trivial
theorem wk_seq {d : D} {v : V} {ds : List D} (h : RpB b K O H d v) (e : seqOf d = some ds) : ∃ k a vs, v = .ref a ∧ SqK K H k a vs ∧ Wk K (SrcRel b O H) (ItS K k a) ds := by
  obtain ⟨k, a, vs, rfl, sq, q⟩ := rpb_seq h e
  refine ⟨k, a, vs, rfl, sq, ⟨fun O' H' i rel hi => ?_, fun O' H' rel => ?_, fun O' H' i x H'' d rel hO hd hy => ?_⟩⟩
  · obtain ⟨s1, r1⟩ := q O' H' rel
    have hlt : i < vs.length := by rw [← r1.length]; exact hi
    cases k with
    | l => exact ⟨vs, vs[i], s1, List.getElem?_eq_getElem hlt⟩
    | t => exact ⟨vs, vs[i], s1, List.getElem?_eq_getElem hlt⟩
  · obtain ⟨s1, r1⟩ := q O' H' rel
    cases k with
    | l => exact ⟨vs, s1, Nat.le_of_eq r1.length.symm⟩
    | t => exact ⟨vs, s1, Nat.le_of_eq r1.length.symm⟩
  · obtain ⟨s1, r1⟩ := q O' H' rel
    obtain ⟨w, hw, rw'⟩ := r1.get hd
    cases k with
    | l =>
      obtain ⟨rfl, hy⟩ := hy
      have e : x = w := Option.some.inj ((hy vs s1).symm.trans hw)
      subst e
      exact ⟨Same.refl _, rw'⟩
    | t =>
      obtain ⟨rfl, hy⟩ := hy
      have e : x = w := Option.some.inj ((hy vs s1).symm.trans hw)
      subst e
      exact ⟨Same.refl _, rw'⟩
theorem wk_str {Rel : (Addr → Prop) → Hp → Prop} (z : Str) : Wk K Rel (Its z) (z.cps.toList.map fun c => D.str ⟨#[c]⟩) := by
  have hl : (z.cps.toList.map fun c => D.str ⟨#[c]⟩).length = z.cps.size := by rw [List.length_map, Array.length_toList]
  refine ⟨fun O' H' i rel hi => ?_, fun O' H' rel => ?_, fun O' H' i x H'' d rel hO hd hy => ?_⟩
  · rw [hl] at hi
    exact hi
  · rw [hl]
    exact Nat.le_refl _
  · obtain ⟨rfl, c, hc, rfl⟩ := hy
    rw [List.getElem?_map, Array.getElem?_toList, hc] at hd
    cases hd
    exact ⟨Same.refl _, rp_str⟩
theorem wk_range {Rel : (Addr → Prop) → Hp → Prop} (lo : Int) (n : Nat) : Wk K Rel (Itr lo n) (rgL lo n) := by
  have hl : (rgL lo n).length = n := by rw [rgL, List.length_map, List.length_range]
  refine ⟨fun O' H' i rel hi => ?_, fun O' H' rel => ?_, fun O' H' i x H'' d rel hO hd hy => ?_⟩
  · rw [hl] at hi
    exact hi
  · rw [hl]
    exact Nat.le_refl _
  · obtain ⟨rfl, rfl⟩ := hy
    have hi : i < n := by
      have := (List.getElem?_eq_some_iff.mp hd).1
      rw [hl] at this
      exact this
    rw [rgL, List.getElem?_map, List.getElem?_range hi] at hd
    cases hd
    exact ⟨Same.refl _, rp_int⟩
theorem wk_rangeC {Rel : (Addr → Prop) → Hp → Prop} (lo c : Int) (n : Nat) : Wk K Rel (Itc lo c n) (rgC lo c n) := by
  have hl : (rgC lo c n).length = n := by rw [rgC, List.length_map, List.length_range]
  refine ⟨fun O' H' i rel hi => ?_, fun O' H' rel => ?_, fun O' H' i x H'' d rel hO hd hy => ?_⟩
  · rw [hl] at hi
    exact hi
  · rw [hl]
    exact Nat.le_refl _
  · obtain ⟨rfl, rfl⟩ := hy
    have hi : i < n := by
      have := (List.getElem?_eq_some_iff.mp hd).1
      rw [hl] at this
      exact this
    rw [rgC, List.getElem?_map, List.getElem?_range hi] at hd
    cases hd
    exact ⟨Same.refl _, rp_int⟩
theorem enumL_get : ∀ (xs : List D) (k i : Nat), (enumL k xs)[i]? = (xs[i]?).map fun d => .tup [.int ((k + i : Nat)), d]
  | [], _, _ => rfl
  | x :: r, k, 0 => rfl
  | x :: r, k, i + 1 => by
    show (enumL (k + 1) r)[i]? = _
    rw [enumL_get r (k + 1) i, show k + 1 + i = k + (i + 1) by omega]
    rfl
theorem enumL_len : ∀ (xs : List D) (k : Nat), (enumL k xs).length = xs.length
  | [], _ => rfl
  | x :: r, k => by
    show (enumL (k + 1) r).length + 1 = r.length + 1
    rw [enumL_len r]
theorem wk_enum {d : D} {v : V} {ds : List D} (h : RpB b K O H d v) (e : seqOf d = some ds) : ∃ k a vs, v = .ref a ∧ SqK K H k a vs ∧ Wk K (SrcRel b O H) (IteK K k a) (enumL 0 ds) := by
  obtain ⟨k, a, vs, rfl, sq, q⟩ := rpb_seq h e
  refine ⟨k, a, vs, rfl, sq, ⟨fun O' H' i rel hi => ?_, fun O' H' rel => ?_, fun O' H' i x H'' d rel hO hd hy => ?_⟩⟩
  · obtain ⟨s1, r1⟩ := q O' H' rel
    have hlt : i < vs.length := by rw [← r1.length, ← enumL_len ds 0]; exact hi
    exact ⟨vs, vs[i], s1, List.getElem?_eq_getElem hlt⟩
  · obtain ⟨s1, r1⟩ := q O' H' rel
    exact ⟨vs, s1, by rw [enumL_len]; exact r1.length.symm⟩
  · obtain ⟨s1, r1⟩ := q O' H' rel
    obtain ⟨T, y, rfl, nT, rfl, hy⟩ := hy
    rw [enumL_get] at hd
    cases hx : ds[i]? with
    | none => rw [hx] at hd; exact nomatch hd
    | some d' =>
      rw [hx] at hd
      cases hd
      obtain ⟨w, hw, rw'⟩ := r1.get hx
      have e : y = w := Option.some.inj ((hy vs s1).symm.trans hw)
      subst e
      refine ⟨same_new nT, ?_⟩
      rw [Nat.zero_add]
      exact new_tup nT hO (RpL.cons rp_int (RpL.cons rw' RpL.nil))
theorem zipL_get : ∀ (xs ys : List D) (i : Nat) (x y : D), xs[i]? = some x → ys[i]? = some y → (zipL xs ys)[i]? = some (.tup [x, y])
  | x :: xs, y :: ys, 0, _, _, h, h' => by cases h; cases h'; rfl
  | x :: xs, y :: ys, i + 1, a, b, h, h' => by
    show (zipL xs ys)[i]? = _
    exact zipL_get xs ys i a b h h'
  | [], _, _, _, _, h, _ => by simp at h
  | _ :: _, [], _, _, _, _, h => by simp at h
theorem zipL_len : ∀ (xs ys : List D), (zipL xs ys).length = min xs.length ys.length
  | [], _ => by simp [zipL]
  | _ :: _, [] => by simp [zipL]
  | x :: xs, y :: ys => by
    show (zipL xs ys).length + 1 = min (xs.length + 1) (ys.length + 1)
    rw [zipL_len xs ys]
    omega
theorem wk_zip {d d2 : D} {v v2 : V} {ds es : List D} (h : RpB b K O H d v) (h2 : RpB b K O H d2 v2) (e : seqOf d = some ds) (e2 : seqOf d2 = some es) :
    ∃ k k' a a2 vs ws, v = .ref a ∧ v2 = .ref a2 ∧ SqK K H k a vs ∧ SqK K H k' a2 ws ∧ Wk K (SrcRel b O H) (ItzK K k k' a a2) (zipL ds es) := by
  obtain ⟨k, a, vs, rfl, sq, q⟩ := rpb_seq h e
  obtain ⟨k', a2, ws, rfl, sq2, q2⟩ := rpb_seq h2 e2
  refine ⟨k, k', a, a2, vs, ws, rfl, rfl, sq, sq2, ⟨fun O' H' i rel hi => ?_, fun O' H' rel => ?_, fun O' H' i x H'' d rel hO hd hy => ?_⟩⟩
  · obtain ⟨s1, r1⟩ := q O' H' rel
    obtain ⟨s2, r2⟩ := q2 O' H' rel
    rw [zipL_len, r1.length, r2.length] at hi
    have h1 : i < vs.length := by omega
    have h2 : i < ws.length := by omega
    exact ⟨vs, ws, vs[i], ws[i], s1, s2, List.getElem?_eq_getElem h1, List.getElem?_eq_getElem h2⟩
  · obtain ⟨s1, r1⟩ := q O' H' rel
    obtain ⟨s2, r2⟩ := q2 O' H' rel
    exact ⟨vs, ws, s1, s2, by rw [zipL_len, r1.length, r2.length]⟩
  · obtain ⟨s1, r1⟩ := q O' H' rel
    obtain ⟨s2, r2⟩ := q2 O' H' rel
    obtain ⟨T, y, y2, rfl, nT, rfl, hy, hy2⟩ := hy
    have hi : i < (zipL ds es).length := (List.getElem?_eq_some_iff.mp hd).1
    rw [zipL_len] at hi
    have h1 : i < ds.length := by omega
    have h2 : i < es.length := by omega
    rw [zipL_get ds es i _ _ (List.getElem?_eq_getElem h1) (List.getElem?_eq_getElem h2)] at hd
    cases hd
    obtain ⟨w, hw, rw'⟩ := r1.get (List.getElem?_eq_getElem h1)
    obtain ⟨w2, hw2, rw2⟩ := r2.get (List.getElem?_eq_getElem h2)
    have e : y = w := Option.some.inj ((hy vs s1).symm.trans hw)
    have e2 : y2 = w2 := Option.some.inj ((hy2 ws s2).symm.trans hw2)
    subst e e2
    exact ⟨same_new nT, new_tup nT hO (RpL.cons rw' (RpL.cons rw2 RpL.nil))⟩
end
end LC

set_option Elab.async false
set_option linter.all false
set_option maxRecDepth 100000
set_option maxHeartbeats 1000000
/-! LC: sources, targets, comprehensions -/
namespace LC
open PySem PySem.Spec PyProof.Rows L2
theorem rgc_ok {a b c : Int} (ha : -(2 ^ 30) ≤ a) (ha' : a < 2 ^ 30) (hb : -(2 ^ 30) ≤ b) (hb' : b < 2 ^ 30) (hc : 0 < c) (hc' : c < 1000) : RgC a b c (if a < b then ((b - a - 1) / c + 1).toNat else 0) := by
  have hq : a < b → 0 ≤ (b - a - 1) / c ∧ (b - a - 1) / c ≤ b - a - 1 := fun h => ⟨Int.ediv_nonneg (by omega) (by omega), Int.ediv_le_self _ (by omega)⟩
  refine ⟨by omega, by omega, ?_, ?_⟩
  · unfold Builtin.Range.small Builtin.Range.rangeSize
    simp only [Builtin.Range.rangeFitsLong, Bool.and_eq_true, Bool.or_eq_true, decide_eq_true_eq, beq_iff_eq, show c > 0 by omega, if_true]
    by_cases h : a < b
    · obtain ⟨h1, h2⟩ := hq h
      simp only [h, if_true]
      omega
    · simp only [h, if_false]
      omega
  · unfold Builtin.Range.rangeSize
    rw [if_pos (show c > 0 by omega)]
    by_cases h : a < b
    · obtain ⟨h1, h2⟩ := hq h
      rw [if_pos h, if_pos h]
      omega
    · rw [if_neg h, if_neg h]
      rfl
def RpBL (b : Bool) (K : PySem.W.Frag) (O : Addr → Prop) (H : Hp) (ds : List D) (vs : List V) : Prop := match b with
  | true => RpL K O H ds vs
  | false => RpWL K O H ds vs
def tB1 (b : Bool) (c : Cf) (K : PySem.W.Frag) (M : List Nat) (e : E) : TE := fun σ H Q => ∃ O ρ d, Ok K O M ρ σ H ∧ ev c e ρ = .ok d ∧ ∀ v H', Same H H' → RpB b K (Av O M σ) H' d v → Q v H'
def tBs (b : Bool) (c : Cf) (K : PySem.W.Frag) (M : List Nat) (es : List E) : TA := fun σ H Q => ∃ O ρ ds, Ok K O M ρ σ H ∧ evs c es ρ = .ok ds ∧ ∀ vs H', Same H H' → RpBL b K (Av O M σ) H' ds vs → Q vs H'
section
variable {K : PySem.W.Frag} {O : Addr → Prop} {H : Hp} {b : Bool}
theorem RpBL.w {ds : List D} {vs : List V} (h : RpBL b K O H ds vs) : RpWL K O H ds vs := by
  cases b with
  | true => exact RpL.w h
  | false => exact h
theorem rpbl_one {x : D} {vs : List V} (h : RpBL b K O H [x] vs) : ∃ v, vs = [v] ∧ RpB b K O H x v := by
  cases b with
  | true =>
    have h' : RpL K O H [x] vs := h
    rw [RpL] at h'
    obtain ⟨v, r, rfl, t, e⟩ := h'
    rw [RpL] at e
    subst e
    exact ⟨v, rfl, t⟩
  | false => exact rpwl_one h
theorem rpbl_two {x y : D} {vs : List V} (h : RpBL b K O H [x, y] vs) : ∃ v w, vs = [v, w] ∧ RpB b K O H x v ∧ RpB b K O H y w := by
  cases b with
  | true =>
    have h' : RpL K O H [x, y] vs := h
    rw [RpL] at h'
    obtain ⟨v, r, rfl, t, e⟩ := h'
    obtain ⟨w, rfl, t'⟩ := rpbl_one (b := true) e
    exact ⟨v, w, rfl, t, t'⟩
  | false => exact rpwl_two h
end
def tI (b : Bool) (c : Cf) (K : PySem.W.Frag) (M : List Nat) (k : Src) (ss : List E) : TI := fun σ H R => ∃ O ρ ds its, Ok K O M ρ σ H ∧ evs c ss ρ = .ok ds ∧ items k ds = .ok its ∧
  ∀ J H', Same H H' → Wk K (SrcRel b (Av O M σ) H') J its → R J H'
section
variable {X : Cx} {c : Cf} {M : List Nat} {b : Bool} {tg : Expr}
theorem pi_imp {e : Expr} {t t' : TI} (h : PI X tg e t) (q : ∀ σ H R, t' σ H R → t σ H R) : PI X tg e t' := ⟨fun pins s σ H R I w => h.run pins s σ H R I (q σ H R w)⟩
theorem small62_iff {i : Int} (h : small62 i = true) : -(2 ^ 30) ≤ i ∧ i < 2 ^ 30 := by
  unfold small62 at h
  rw [Bool.and_eq_true] at h
  exact ⟨of_decide_eq_true h.1, of_decide_eq_true h.2⟩
theorem evs_one {e : E} {ρ : Rho} {ds : List D} (h : evs c [e] ρ = .ok ds) : ∃ d, ev c e ρ = .ok d ∧ ds = [d] := by
  rw [evs] at h
  obtain ⟨x, e1, h⟩ := bind_ok h
  rw [evs] at h
  cases h
  exact ⟨x, e1, rfl⟩
theorem s_seq {e : Expr} {e' : E} (h : PE X e (tB1 b c X.K M e')) : PI X tg e (tI b c X.K M .seq [e']) := pi_imp (pi_any h) fun σ H R ⟨O, ρ, ds, its, o, ee, ei, q⟩ => by
  obtain ⟨d, e1, rfl⟩ := evs_one ee
  refine ⟨O, ρ, d, o, e1, fun v H1 s1 r1 => ?_⟩
  rw [items] at ei
  unfold itSeq at ei
  split at ei
  · rename_i xs he
    cases ei
    cases he
    obtain ⟨k, a, vs, rfl, sq, w⟩ := wk_seq r1 rfl
    exact .inl ⟨k, a, vs, rfl, sq, q _ H1 s1 w⟩
  · rename_i xs he
    cases ei
    cases he
    obtain ⟨k, a, vs, rfl, sq, w⟩ := wk_seq r1 rfl
    exact .inl ⟨k, a, vs, rfl, sq, q _ H1 s1 w⟩
  · rename_i z he
    cases ei
    cases he
    cases r1.w.str
    exact .inr ⟨_, rfl, q _ H1 s1 (wk_str _)⟩
  · exact nomatch ei
theorem s_rng1 {e : Expr} {e' : E} {p pos : Pos} (hg : Gl X "range") (hm : X.mg "range" = none) (h : PA X [e] (tBs b c X.K M [e'])) (hs : starEach [e] X.env = [(false, eval e X.env)]) : PI X tg (.Call (.Name "range" p) [e] [] pos) (tI b c X.K M .rng [e']) :=
  pi_imp (pi_range1 hg hm h hs) fun σ H R ⟨O, ρ, ds, its, o, ee, ei, q⟩ => by
  obtain ⟨d, e1, rfl⟩ := evs_one ee
  refine ⟨O, ρ, [d], o, ee, fun vs H1 s1 r1 => ?_⟩
  obtain ⟨v, rfl, r⟩ := rpbl_one r1
  rw [items] at ei
  cases d with
  | int n =>
    obtain ⟨hn, e⟩ := ok_ite ei
    cases e
    cases r.w.int
    obtain ⟨h1, h2⟩ := small62_iff hn
    exact ⟨n, rfl, by omega, by omega, q _ H1 s1 (wk_range _ _)⟩
  | _ => exact nomatch ei
theorem evs_two {e f : E} {ρ : Rho} {ds : List D} (h : evs c [e, f] ρ = .ok ds) : ∃ d d', ds = [d, d'] := by
  rw [evs] at h
  obtain ⟨x, e1, h⟩ := bind_ok h
  obtain ⟨ys, e2, h⟩ := bind_ok h
  obtain ⟨y, _, rfl⟩ := evs_one e2
  cases h
  exact ⟨x, y, rfl⟩
theorem evs_three {e f g : E} {ρ : Rho} {ds : List D} (h : evs c [e, f, g] ρ = .ok ds) : ∃ d d' d'', ds = [d, d', d''] := by
  rw [evs] at h
  obtain ⟨x, e1, h⟩ := bind_ok h
  obtain ⟨ys, e2, h⟩ := bind_ok h
  obtain ⟨y, z, rfl⟩ := evs_two e2
  cases h
  exact ⟨x, y, z, rfl⟩
theorem s_rng2 {e f : Expr} {e' f' : E} {p pos : Pos} (hg : Gl X "range") (hm : X.mg "range" = none) (h : PA X [e, f] (tBs b c X.K M [e', f'])) (hs : starEach [e, f] X.env = [(false, eval e X.env), (false, eval f X.env)]) (hs2 : starEach [f] X.env = [(false, eval f X.env)]) :
    PI X tg (.Call (.Name "range" p) [e, f] [] pos) (tI b c X.K M .rng [e', f']) := pi_imp (pi_range2 hg hm h hs hs2) fun σ H R ⟨O, ρ, ds, its, o, ee, ei, q⟩ => by
  obtain ⟨d, d', rfl⟩ := evs_two ee
  refine ⟨O, ρ, [d, d'], o, ee, fun vs H1 s1 r1 => ?_⟩
  obtain ⟨v, w, rfl, r, r'⟩ := rpbl_two r1
  rw [items] at ei
  unfold itRng at ei
  split at ei
  · rename_i he
    cases he
  · rename_i n m he
    cases he
    obtain ⟨hn, e⟩ := ok_ite ei
    cases e
    cases r.w.int
    cases r'.w.int
    rw [Bool.and_eq_true] at hn
    obtain ⟨h1, h2⟩ := small62_iff hn.1
    obtain ⟨h3, h4⟩ := small62_iff hn.2
    exact ⟨_, _, rfl, ⟨by omega, by omega, by omega, by omega⟩, q _ H1 s1 (wk_range _ _)⟩
  · rename_i he
    cases he
  · exact nomatch ei
theorem s_rng3 {e f g : Expr} {e' f' g' : E} {p pos : Pos} (hg : Gl X "range") (hm : X.mg "range" = none) (h : PA X [e, f, g] (tBs b c X.K M [e', f', g'])) (hs : starEach [e, f, g] X.env = (false, eval e X.env) :: starEach [f, g] X.env) (hpl : (backTo pos (starEach [f, g] X.env)).any (·.1) = false) :
    PI X tg (.Call (.Name "range" p) [e, f, g] [] pos) (tI b c X.K M .rng [e', f', g']) := pi_imp (pi_range3 hg hm h hs hpl) fun σ H R ⟨O, ρ, ds, its, o, ee, ei, q⟩ => by
  obtain ⟨d, d', d'', rfl⟩ := evs_three ee
  refine ⟨O, ρ, [d, d', d''], o, ee, fun vs H1 s1 r1 => ?_⟩
  obtain ⟨v, w, u, rfl, r, r', r''⟩ := rpwl_three r1.w
  rw [items] at ei
  unfold itRng at ei
  split at ei
  · rename_i he
    cases he
  · rename_i he
    cases he
  · rename_i n m k he
    cases he
    obtain ⟨hn, e⟩ := ok_ite ei
    cases e
    cases r.int
    cases r'.int
    cases r''.int
    rw [Bool.and_eq_true, Bool.and_eq_true] at hn
    obtain ⟨h1, h2⟩ := small62_iff hn.1.1
    obtain ⟨h3, h4⟩ := small62_iff hn.1.2
    obtain ⟨h5, h6⟩ := of_decide_eq_true hn.2
    exact ⟨_, _, _, _, rfl, rgc_ok h1 h2 h3 h4 h5 h6, q _ H1 s1 (wk_rangeC _ _ _)⟩
  · exact nomatch ei
theorem s_enum {e : Expr} {e' : E} {p pos tpos : Pos} {elts : List Expr} {kk : Nat} (hg : Gl X "enumerate") (hm : X.mg "enumerate" = none) (h : PA X [e] (tBs b c X.K M [e'])) (hs : starEach [e] X.env = [(false, eval e X.env)]) :
    PI X (.Tuple elts kk tpos) (.Call (.Name "enumerate" p) [e] [] pos) (tI b c X.K M .enum [e']) := pi_imp (pi_enumK hg hm h hs) fun σ H R ⟨O, ρ, ds, its, o, ee, ei, q⟩ => by
  obtain ⟨d, e1, rfl⟩ := evs_one ee
  refine ⟨O, ρ, [d], o, ee, fun vs H1 s1 r1 => ?_⟩
  obtain ⟨v, rfl, r⟩ := rpbl_one r1
  rw [items, itEnum] at ei
  split at ei
  · rename_i xs hx
    cases ei
    obtain ⟨k, a, vs, rfl, sq, w⟩ := wk_enum r hx
    exact ⟨k, a, vs, rfl, sq, q _ H1 s1 w⟩
  · exact nomatch ei
theorem s_zip {e f : Expr} {e' f' : E} {p pos tpos : Pos} {elts : List Expr} {kk : Nat} (hg : Gl X "zip") (hm : X.mg "zip" = none) (h : PA X [e, f] (tBs b c X.K M [e', f'])) (hs : starEach [e, f] X.env = (false, eval e X.env) :: starEach [f] X.env) (hpl : (backTo pos (starEach [f] X.env)).any (·.1) = false) :
    PI X (.Tuple elts kk tpos) (.Call (.Name "zip" p) [e, f] [] pos) (tI b c X.K M .zip [e', f']) := pi_imp (pi_zipK hg hm h hs hpl) fun σ H R ⟨O, ρ, ds, its, o, ee, ei, q⟩ => by
  obtain ⟨d, d', rfl⟩ := evs_two ee
  refine ⟨O, ρ, [d, d'], o, ee, fun vs H1 s1 r1 => ?_⟩
  obtain ⟨v, w, rfl, r, r'⟩ := rpbl_two r1
  rw [items, itZip] at ei
  split at ei
  · rename_i xs ys hx hy
    cases ei
    obtain ⟨k, k', a, a2, vs, ws, rfl, rfl, sq, sq2, w⟩ := wk_zip r r' hx hy
    exact ⟨k, k', a, a2, vs, ws, rfl, sq, sq2, q _ H1 s1 w⟩
  · exact nomatch ei
theorem b_true {es : List Expr} {es' : List E} (h : PA X es (tEs c X.K M es')) : PA X es (tBs true c X.K M es') := h
theorem b_false {es : List Expr} {es' : List E} (h : PA X es (tWs c X.K M es')) : PA X es (tBs false c X.K M es') := h
theorem b1_true {e : Expr} {e' : E} (h : PE X e (tE c X.K M e')) : PE X e (tB1 true c X.K M e') := h
theorem b1_false {e : Expr} {e' : E} (h : PE X e (tW c X.K M e')) : PE X e (tB1 false c X.K M e') := h
end
/-! targets -/
theorem wipe_get (σ : L2.St) : ∀ (vs : List Nat) (j : Nat), (wipe σ vs)[j]? = if j ∈ vs ∧ j < σ.length then some none else σ[j]?
  | [], j => by simp [wipe]
  | v :: vs, j => by
    rw [wipe, List.getElem?_set, wipe_get σ vs j, wipe_length]
    by_cases h : v = j
    · subst h
      by_cases hl : v < σ.length
      · simp [hl]
      · simp [hl]
    · rw [if_neg h]
      have : j ≠ v := fun e => h e.symm
      simp [this]
theorem wipeR_eq (ρ : Rho) : ∀ (vs : List Nat) (j : Nat), (wipeR ρ vs)[j]? = if j ∈ vs ∧ j < ρ.length then some none else ρ[j]?
  | [], j => by simp [wipeR]
  | v :: vs, j => by
    have hl : ∀ (vs : List Nat), (wipeR ρ vs).length = ρ.length := fun vs => by
      induction vs with
      | nil => rfl
      | cons w ws ih => rw [wipeR, List.length_set, ih]
    rw [wipeR, List.getElem?_set, wipeR_eq ρ vs j, hl]
    by_cases h : v = j
    · subst h
      by_cases hl : v < ρ.length
      · simp [hl]
      · simp [hl]
    · rw [if_neg h]
      have : j ≠ v := fun e => h e.symm
      simp [this]
theorem wipe_set {σ : L2.St} {i : Nat} {x : Option V} {own : List Nat} (h : i ∈ own) : wipe (σ.set i x) own = wipe σ own := by
  apply List.ext_getElem?
  intro j
  rw [wipe_get, wipe_get, List.length_set]
  by_cases hj : j ∈ own ∧ j < σ.length
  · rw [if_pos hj, if_pos hj]
  · rw [if_neg hj, if_neg hj, List.getElem?_set]
    by_cases e : i = j
    · subst e
      have : ¬ i < σ.length := fun z => hj ⟨h, z⟩
      rw [if_pos rfl, if_neg this, List.getElem?_eq_none (by omega)]
    · rw [if_neg e]
section
variable {K : PySem.W.Frag} {O : Addr → Prop} {H H' : Hp} {M : List Nat} {ρ ρ' : Rho} {σ : L2.St} {d : D} {v : V}
theorem av_set {i : Nat} {x : Option V} (h : i ∉ M) : Av O M (σ.set i x) = Av O M σ := by
  funext b
  apply propext
  constructor
  · rintro (z | ⟨j, hj, e⟩)
    · exact .inl z
    · refine .inr ⟨j, hj, ?_⟩
      rw [List.getElem?_set_ne (fun q => h (by rw [q]; exact hj))] at e
      exact e
  · rintro (z | ⟨j, hj, e⟩)
    · exact .inl z
    · refine .inr ⟨j, hj, ?_⟩
      rw [List.getElem?_set_ne (fun q => h (by rw [q]; exact hj))]
      exact e
theorem Ok.set {i : Nat} (h : Ok K O M ρ σ H) (hi : i ∉ M) (r : Rp K (Av O M σ) H d v) : Ok K O M (ρ.set i (some d)) (σ.set i (some v)) H := by
  have ne : ∀ j, j ∈ M → i ≠ j := fun j hj z => hi (by rw [z]; exact hj)
  refine ⟨h.o0, by rw [List.length_set, List.length_set, h.len], fun j e => ?_, fun j d' e n => ?_, fun j d' e m => ?_, fun j k a hj hk e1 e2 => ?_⟩
  · by_cases hij : i = j
    · subst hij
      rw [List.getElem?_set] at e
      simp at e
    · rw [List.getElem?_set_ne hij] at e ⊢
      exact h.non j e
  · rw [av_set hi]
    by_cases hij : i = j
    · subst hij
      have hl : i < ρ.length := by
        have := (List.getElem?_eq_some_iff.mp e).1
        rw [List.length_set] at this
        exact this
      rw [List.getElem?_set_self hl] at e
      cases e
      exact ⟨v, List.getElem?_set_self (by rw [h.len]; exact hl), r⟩
    · rw [List.getElem?_set_ne hij] at e ⊢
      exact h.val j d' e n
  · rw [av_set hi]
    rw [List.getElem?_set_ne (ne j m)] at e ⊢
    exact h.own j d' e m
  · rw [List.getElem?_set_ne (ne j hj)] at e1
    rw [List.getElem?_set_ne (ne k hk)] at e2
    exact h.inj j k a hj hk e1 e2
theorem av_wipe {own : List Nat} (h : ∀ i ∈ own, i ∉ M) : Av O M (wipe σ own) = Av O M σ := by
  funext b
  apply propext
  have key : ∀ j ∈ M, (wipe σ own)[j]? = σ[j]? := fun j hj => by
    rw [wipe_get, if_neg]
    rintro ⟨z, _⟩
    exact h j z hj
  constructor
  · rintro (z | ⟨j, hj, e⟩)
    · exact .inl z
    · exact .inr ⟨j, hj, by rw [← key j hj]; exact e⟩
  · rintro (z | ⟨j, hj, e⟩)
    · exact .inl z
    · exact .inr ⟨j, hj, by rw [key j hj]; exact e⟩
theorem Ok.wipe {own : List Nat} (h : Ok K O M ρ σ H) (ho : ∀ i ∈ own, i ∉ M) : Ok K O M (wipeR ρ own) (L2.wipe σ own) H := by
  have hl : (wipeR ρ own).length = ρ.length := by
    clear ho
    induction own with
    | nil => rfl
    | cons w ws ih => rw [wipeR, List.length_set, ih]
  have key : ∀ j ∈ M, (L2.wipe σ own)[j]? = σ[j]? := fun j hj => by
    rw [wipe_get, if_neg]
    rintro ⟨z, _⟩
    exact ho j z hj
  refine ⟨h.o0, by rw [wipe_length, hl, h.len], fun j e => ?_, fun j d' e n => ?_, fun j d' e m => ?_, fun j k a hj hk e1 e2 => ?_⟩
  · rw [wipeR_eq] at e
    rw [wipe_get, h.len]
    split at e
    · rename_i hc
      rw [if_pos hc]
    · rename_i hc
      rw [if_neg hc]
      exact h.non j e
  · rw [av_wipe ho]
    rw [wipeR_eq] at e
    rw [wipe_get, h.len]
    split at e
    · exact nomatch e
    · rename_i hc
      rw [if_neg hc]
      exact h.val j d' e n
  · rw [av_wipe ho, key j m]
    rw [wipeR_eq] at e
    split at e
    · exact nomatch e
    · exact h.own j d' e m
  · rw [key j hj] at e1
    rw [key k hk] at e2
    exact h.inj j k a hj hk e1 e2
/-- several slots -/
def setS : List Nat → List V → L2.St → L2.St
  | i :: is, v :: vs, σ => setS is vs (σ.set i (some v))
  | _, _, σ => σ
theorem Ok.setAll : ∀ {is : List Nat} {ds : List D} {vs : List V} {ρ ρ' : Rho} {σ : L2.St}, Ok K O M ρ σ H → (∀ i ∈ is, i ∉ M) → RpL K (Av O M σ) H ds vs → setAll is ds ρ = some ρ' →
    Ok K O M ρ' (setS is vs σ) H ∧ Av O M (setS is vs σ) = Av O M σ ∧ ∀ own, (∀ i ∈ is, i ∈ own) → L2.wipe (setS is vs σ) own = L2.wipe σ own
  | [], [], vs, ρ, ρ', σ, h, _, r, e => by
    cases e
    exact ⟨h, rfl, fun _ _ => rfl⟩
  | i :: is, d :: ds, vs, ρ, ρ', σ, h, hM, r, e => by
    rw [RpL] at r
    obtain ⟨v, vr, rfl, r1, r2⟩ := r
    have hi := hM i List.mem_cons_self
    have h1 := h.set hi r1
    obtain ⟨g1, g2, g3⟩ := Ok.setAll (is := is) (ds := ds) (vs := vr) h1 (fun j hj => hM j (List.mem_cons_of_mem _ hj)) (by rw [av_set hi]; exact r2) e
    refine ⟨g1, by rw [← av_set (σ := σ) hi]; exact g2, fun own ho => ?_⟩
    rw [← wipe_set (σ := σ) (x := some v) (ho i List.mem_cons_self)]
    exact g3 own fun j hj => ho j (List.mem_cons_of_mem _ hj)
  | [], _ :: _, _, _, _, _, _, _, _, e => nomatch e
  | _ :: _, [], _, _, _, _, _, _, _, e => nomatch e
end
def slots : Tg → List Nat
  | .one i => [i]
  | .many is => is
def tG (K : PySem.W.Frag) (M : List Nat) (tg : Tg) : TG := fun v σ H Q => ∃ O ρ d ρ', Ok K O M ρ σ H ∧ Rp K (Av O M σ) H d v ∧ bindT tg d ρ = some ρ' ∧
  ∀ σ', Ok K O M ρ' σ' H → Av O M σ' = Av O M σ → (∀ own, (∀ i ∈ slots tg, i ∈ own) → wipe σ' own = wipe σ own) → Q σ' H
section
variable {X : Cx} {c : Cf} {M : List Nat}
theorem pg_imp {tg : Expr} {t t' : TG} (h : PG X tg t) (q : ∀ v σ H Q, t' v σ H Q → t v σ H Q) : PG X tg t' := ⟨fun pins s σ H v u Q I r w => h.run pins s σ H v u Q I r (q v σ H Q w)⟩
theorem g_one {i : Nat} {x : Str} {pos : Pos} (hN : X.N.Nodup) (hi : X.N[i]? = some x) (hx : Loc X.env.scope x) (hf : X.fn x = true ∨ X.env.scope.names.lookup x = some .local) (hM : i ∉ M) : PG X (.Name x pos) (tG X.K M (.one i)) :=
  pg_imp (pg_name hN hi hx hf) fun v σ H Q ⟨O, ρ, d, ρ', o, r, e, q⟩ => by
  cases e
  exact q _ (o.set hM r) (av_set hM) fun own ho => wipe_set (ho i List.mem_cons_self)
/-- the names of a target, one after another -/
def gsN : List Nat → TGs
  | [] => gNil
  | i :: is => gCons (gName i) (gsN is)
theorem gsN_set : ∀ (is : List Nat) (vs : List V) (σ : L2.St) (H : Hp) (Q : L2.St → Hp → Prop), vs.length = is.length → Q (setS is vs σ) H → gsN is vs σ H Q
  | [], [], σ, H, Q, _, q => ⟨rfl, q⟩
  | i :: is, v :: vs, σ, H, Q, h, q => ⟨v, vs, rfl, gsN_set is vs _ H Q (by simpa using h) q⟩
  | [], _ :: _, _, _, _, h, _ => by simp at h
  | _ :: _, [], _, _, _, h, _ => by simp at h
theorem setAll_len : ∀ {is : List Nat} {ds : List D} {ρ ρ' : Rho}, setAll is ds ρ = some ρ' → ds.length = is.length
  | [], [], _, _, _ => rfl
  | i :: is, d :: ds, ρ, ρ', h => by
    rw [List.length_cons, List.length_cons, setAll_len (is := is) (ds := ds) h]
  | [], _ :: _, _, _, h => nomatch h
  | _ :: _, [], _, _, h => nomatch h
theorem g_many {is : List Nat} {es : List Expr} {k : Nat} {pos : Pos} (hc : X.calm = true) (h : PGs X es (gsN is)) (hn : (assignEach es X.env).length = is.length) (hst : (assignEach es X.env).findIdx? (·.1) = none) (hM : ∀ i ∈ is, i ∉ M) : PG X (.Tuple es k pos) (tG X.K M (.many is)) :=
  pg_imp (pg_tup hc h hn hst) fun v σ H Q ⟨O, ρ, d, ρ', o, r, e, q⟩ => by
  cases d with
  | tup ds =>
    rw [Rp] at r
    obtain ⟨a, vs, rfl, t, l⟩ := r
    obtain ⟨g1, g2, g3⟩ := o.setAll hM l e
    have hl := setAll_len e
    exact ⟨a, vs, rfl, t.sq, by rw [← l.length, hl], gsN_set is vs σ H Q (by rw [← l.length, hl]) (q _ g1 g2 g3)⟩
  | _ => exact nomatch e
end
end LC

set_option Elab.async false
set_option linter.all false
set_option maxRecDepth 100000
set_option maxHeartbeats 1000000
/-! LC: comprehensions -/
namespace LC
open PySem PySem.Spec PyProof.Rows L2
section
variable {K : PySem.W.Frag} {c : Cf} {M : List Nat}
/-- one turn of a comprehension -/
def lcF (c : Cf) (own : List Nat) (tg : Tg) (cond elt : E) (ρ : Rho) : D → R (Option D) := fun d => match bindT tg d (wipeR ρ own) with
  | some ρ' => (ev c cond ρ').bind fun t => (rTruth t).bind fun b => match b with
    | true => (ev c elt ρ').bind fun x => .ok (some x)
    | false => .ok none
  | none => .bad
theorem lcGo_len {f : D → R (Option D)} : ∀ {ds r : List D}, lcGo f ds = .ok r → r.length ≤ ds.length
  | [], r, h => by cases h; exact Nat.le_refl _
  | d :: ds, r, h => by
    rw [lcGo] at h
    obtain ⟨o, e1, h⟩ := bind_ok h
    obtain ⟨r', e2, h⟩ := bind_ok h
    have ih := lcGo_len e2
    cases o with
    | none => cases h; exact Nat.le_succ_of_le ih
    | some x => cases h; exact Nat.succ_le_succ ih
def tF (c : Cf) (K : PySem.W.Frag) (M : List Nat) (e : E) : TE := fun σ H Q => ∃ O ρ ds, Ok K O M ρ σ H ∧ ev c e ρ = .ok (.lst ds) ∧ ∀ p vs H', Same H H' → H p = none → H' p = some (.lst vs) → RpL K (fun b => Av O M σ b ∨ b = p) H' ds vs → Q (.ref p) H'
theorem tF_of {e : E} {σ : L2.St} {H : Hp} {Q : VK} (hl : ∀ ρ d, ev c e ρ = .ok d → ∃ ds, d = .lst ds) (h : tE c K M e σ H Q) : tF c K M e σ H Q := by
  obtain ⟨O, ρ, d, o, ee, q⟩ := h
  obtain ⟨ds, rfl⟩ := hl ρ d ee
  refine ⟨O, ρ, ds, o, ee, fun p vs H' s hp hv r => q _ H' s (rp_lst hv (fun z => o.dom p z hp) (Keep.rpl ⟨fun b ob hb _ => hb, fun b _ z => .inl z⟩ _ _ r))⟩
theorem lc_read {own : List Nat} {tg : Tg} {k : Src} {ss : List E} {cond elt : E} {σ : L2.St} {H : Hp} {Q : VK} (hown : ∀ i ∈ own, i ∉ M) (hslots : ∀ i ∈ slots tg, i ∈ own)
    (h : tF c K M (.lc own tg k ss cond elt) σ H Q) : tLc (tI false c K M k ss) (tG K M tg) (tT c K M cond) (tE c K M elt) own σ H Q := by
  obtain ⟨O, ρ, r, o, ee, q⟩ := h
  rw [ev] at ee
  obtain ⟨ds, e1, ee⟩ := bind_ok ee
  obtain ⟨its, e2, ee⟩ := bind_ok ee
  have hLim : its.length ≤ LIM := by
    by_cases hl : its.length ≤ LIM
    · exact hl
    · rw [if_neg hl] at ee
      exact nomatch ee
  rw [if_pos hLim] at ee
  obtain ⟨r2, e3, ee⟩ := bind_ok ee
  have e4 : r2 = r := by
    cases ee
    rfl
  have e3' : lcGo (lcF c own tg cond elt ρ) its = .ok r := by
    rw [← e4]
    exact e3
  clear e3 e4 ee
  refine ⟨O, ρ, ds, its, o, e1, e2, fun J H1 s1 wk Dd nD => ?_⟩
  have o1 := o.ext s1
  have nA : ¬ Av O M σ Dd := fun z => o1.dom Dd z nD
  -- the owned of the callers, and the list that is being made
  have sub : ∀ (b : Addr), H1 b ≠ none → b ≠ Dd := fun b hb z => hb (by rw [z]; exact nD)
  refine ⟨fun i m H2 => m = its.length - i ∧ i ≤ its.length ∧ Same H1 H2 ∧ ∃ acc accD rest, H2 Dd = some (.lst acc) ∧ RpL K (Av (fun b => O b ∨ b = Dd) M σ) H2 accD acc ∧ lcGo (lcF c own tg cond elt ρ) (its.drop i) = .ok rest ∧ accD ++ rest = r ∧ accD.length ≤ i,
    ⟨its.length, rfl, Nat.zero_le _, same_new nD, [], [], r, upd_same, RpL.nil, e3', rfl, Nat.le_refl _⟩, ?_⟩
  rintro i m H2 ⟨rfl, hi, s2, acc, accD, rest, hD, ra, eg, er, hlen⟩
  -- the frame as it stands at this turn, the new list among what is to be kept away from
  have kp : Keep (Av O M σ) (Av (fun b => O b ∨ b = Dd) M σ) H1 H2 := ⟨fun b ob hb _ => s2 b ob hb, fun b hb z => by
    rcases z with (z | z) | z
    · exact .inl z
    · exact absurd z (sub b (liv_ne hb))
    · exact .inr z⟩
  have oD : Ok K (fun b => O b ∨ b = Dd) M ρ σ H2 := by
    refine ⟨fun b hb => ?_, o1.len, o1.non, fun j d' e n => ?_, fun j d' e mm => ?_, o1.inj⟩
    · rcases hb with hb | hb
      · exact same_dom s2 (o1.o0 b hb)
      · rw [hb]
        exact not_none hD
    · obtain ⟨v, g1, g2⟩ := o1.val j d' e n
      exact ⟨v, g1, kp.rp _ _ g2⟩
    · obtain ⟨a, vs, es, g1, g2, g3, g4, g5⟩ := o1.own j d' e mm
      refine ⟨a, vs, es, g1, g2, s2 _ _ g3, fun z => ?_, kp.rpl _ _ g5⟩
      rcases z with z | z
      · exact g4 z
      · exact sub a (not_none g3) z
  by_cases hlt : i < its.length
  · refine .inr ⟨wk.go _ H2 i ⟨kp, s2⟩ hlt, fun H' => Same H1 H' ∧ ∃ acc accD rest, H' Dd = some (.lst acc) ∧ RpL K (Av (fun b => O b ∨ b = Dd) M σ) H' accD acc ∧ lcGo (lcF c own tg cond elt ρ) (its.drop (i + 1)) = .ok rest ∧ accD ++ rest = r ∧ accD.length ≤ i + 1,
      fun H' hN => ⟨its.length - (i + 1), by omega, rfl, hlt, hN⟩, fun x H3 hy => ?_⟩
    have hd := List.getElem?_eq_getElem hlt
    obtain ⟨s3, rx⟩ := wk.yld _ H2 i x H3 _ ⟨kp, s2⟩ oD.dom hd hy
    rw [List.drop_eq_getElem_cons hlt, lcGo] at eg
    obtain ⟨ob, f1, eg⟩ := bind_ok eg
    obtain ⟨rest', f2, eg⟩ := bind_ok eg
    unfold lcF at f1
    split at f1
    · rename_i ρ' hb
      obtain ⟨t, t1, f1⟩ := bind_ok f1
      obtain ⟨bb, t2, f1⟩ := bind_ok f1
      have ow := (oD.ext s3).wipe (own := own) hown
      have rxD : Rp K (Av (fun b => O b ∨ b = Dd) M (wipe σ own)) H3 its[i] x := by
        rw [av_wipe hown]
        exact rx
      refine ⟨_, _, _, ρ', ow, rxD, hb, fun σ' o' av' w' => ⟨?_, ?_⟩⟩
      · rw [w' own hslots]
        apply List.ext_getElem?
        intro j
        rw [wipe_get, wipe_get, wipe_length]
        by_cases hj : j ∈ own ∧ j < σ.length
        · rw [if_pos hj, if_pos hj]
        · rw [if_neg hj, if_neg hj]
      have av2 : Av (fun b => O b ∨ b = Dd) M σ' = Av (fun b => O b ∨ b = Dd) M σ := by rw [av', av_wipe hown]
      have s13 := s2.trans s3
      have hD3 : H3 Dd = some (.lst acc) := s3 _ _ hD
      unfold rTruth at t2
      split at t2
      · rename_i b0 ht
        cases t2
        refine ⟨_, ρ', t, bb, o', t1, ht, fun H4 s4 => ?_⟩
        have s14 := s13.trans s4
        cases bb with
        | true =>
          obtain ⟨y, y1, f1⟩ := bind_ok f1
          cases f1
          cases eg
          refine iteT ⟨_, ρ', y, o'.ext s4, y1, fun v H5 s5 r5 => ?_⟩
          have s15 := s14.trans s5
          have hD5 : H5 Dd = some (.lst acc) := s5 _ _ (s4 _ _ hD3)
          rw [av2] at r5
          have ra5 := same_rpl ((s3.trans s4).trans s5) ra
          have kD : Keep (Av (fun b => O b ∨ b = Dd) M σ) (Av (fun b => O b ∨ b = Dd) M σ) H5 (upd H5 Dd (.lst (acc ++ [v]))) := ⟨fun b ob hb nb => by
            rw [upd_ne (fun z => nb.1 (.inl (.inr z)))]
            exact hb, fun _ _ z => z⟩
          have hacc : acc.length < sizeLine := by
            rw [← ra.length]
            exact lim_lt (by omega)
          refine ⟨acc, hD5, hacc, fun b ob hb => ?_, acc ++ [v], accD ++ [y], rest', upd_same, kD.rpl _ _ (ra5.append (RpL.cons r5 RpL.nil)), f2, ?_, ?_⟩
          · rw [upd_ne (sub b (not_none hb))]
            exact s15 _ _ hb
          · rw [List.append_assoc]
            exact er
          · rw [List.length_append]
            show accD.length + 1 ≤ i + 1
            omega
        | false =>
          cases f1
          cases eg
          exact iteF ⟨s14, acc, accD, rest', s4 _ _ hD3, same_rpl (s3.trans s4) ra, f2, er, by omega⟩
      · exact nomatch t2
    · exact nomatch f1
  · have ei : i = its.length := by omega
    subst ei
    refine .inl ⟨wk.stop _ H2 ⟨kp, s2⟩, ?_⟩
    rw [List.drop_length, lcGo] at eg
    cases eg
    rw [List.append_nil] at er
    subst er
    refine q Dd acc H2 (s1.trans s2) (Same.free s1 nD) hD ?_
    exact Keep.rpl ⟨fun b ob hb _ => hb, fun b _ z => by
      rcases z with (z | z) | z
      · exact .inl (.inl z)
      · exact .inr z
      · exact .inl (.inr z)⟩ _ _ ra
theorem lc_lst {own : List Nat} {tg : Tg} {k : Src} {ss : List E} {cond elt : E} : ∀ ρ d, ev c (.lc own tg k ss cond elt) ρ = .ok d → ∃ ds, d = .lst ds := fun ρ d ee => by
  rw [ev] at ee
  obtain ⟨ds, e1, ee⟩ := bind_ok ee
  obtain ⟨its, e2, ee⟩ := bind_ok ee
  by_cases hl : its.length ≤ LIM
  · rw [if_pos hl] at ee
    obtain ⟨r, e3, ee⟩ := bind_ok ee
    exact ⟨r, (R.ok_inj ee).symm⟩
  · rw [if_neg hl] at ee
    exact nomatch ee
end
theorem new_items {O : Addr → Prop} {H : Hp} {K : PySem.W.Frag} {p : Addr} {ob : HO} {ds : List D} {vs : List V} (hp : H p = none) (r : RpL K O H ds vs) : RpL K (fun b => O b ∨ b = p) (upd H p ob) ds vs :=
  Keep.rpl (O := O) ⟨fun b o h _ => same_new hp b o h, fun b hb z => by
    rcases z with z | z
    · exact z
    · exact absurd hp (by rw [← z]; exact liv_ne hb)⟩ _ _ r
section
variable {X : Cx} {c : Cf} {M : List Nat}
theorem l_lcF {elt tg iter : Expr} {ifs : List Expr} {scope : Scope} {own : List (Str × Nat)} {pos : Pos} {tg' : Tg} {k : Src} {ss : List E} {cond elt' : E} (hc : X.calm = true) (hN : X.N.Nodup) (hi : PI X tg iter (tI false c X.K M k ss)) (ok : BlkOk X.N X.env.scope scope own)
    (hg : ∀ (s : Shared) (H : Hp) (C : Addr) (cl : List (Str × Addr)) (fp : List Addr), PG (X.blk s H scope (compEnvC scope cl C X.env) fp) tg (tG X.K M tg'))
    (ht : ∀ (s : Shared) (H : Hp) (C : Addr) (cl : List (Str × Addr)) (fp : List Addr), PTs (X.blk s H scope (compEnvC scope cl C X.env) fp) ifs (tT c X.K M cond))
    (he : ∀ (s : Shared) (H : Hp) (C : Addr) (cl : List (Str × Addr)) (fp : List Addr), PE (X.blk s H scope (compEnvC scope cl C X.env) fp) elt (tE c X.K M elt')) (hs : ∀ x, foldedSetIterable iter X.env x = pure x)
    (hown : ∀ i ∈ own.map (·.2), i ∉ M) (hslots : ∀ i ∈ slots tg', i ∈ own.map (·.2)) : PE X (.ListComp elt [⟨tg, iter, ifs, 0⟩] scope pos) (tF c X.K M (.lc (own.map (·.2)) tg' k ss cond elt')) :=
  pe_imp (pe_lc hc hN hi ok hg ht he hs) fun σ H Q h => lc_read hown hslots h
theorem l_lstF {es : List Expr} {pos : Pos} {es' : List E} (h : PA X es (tEs c X.K M es')) : PE X (.List es pos) (tF c X.K M (.lst es')) := pe_imp (pe_lst h) fun σ H Q ⟨O, ρ, ds, o, ee, q⟩ => by
  rw [ev] at ee
  obtain ⟨xs, e1, ee⟩ := bind_ok ee
  obtain ⟨hl, e2⟩ := ok_ite ee
  cases e2
  exact ⟨O, ρ, _, o, e1, fun vs H1 s1 r1 => ⟨by rw [← r1.length]; exact lim_line hl, fun p hp => q p vs _ (s1.trans (same_new hp)) (Same.free s1 hp) upd_same (new_items hp r1)⟩⟩
theorem l_addF {a b : Expr} {a' b' : E} {pos : Pos} (ha : PE X a (tW c X.K M a')) (hb : PE X b (tW c X.K M b')) : PE X (.BinOp a .Add b pos) (tF c X.K M (.bin .Add a' b')) := pe_imp (pe_op op_catR ha hb) fun σ H Q ⟨O, ρ, ds, o, ee, q⟩ => by
  rw [ev] at ee
  obtain ⟨x, e1, ee⟩ := bind_ok ee
  obtain ⟨y, e2, ee⟩ := bind_ok ee
  refine ⟨O, ρ, x, o, e1, fun v H1 s1 r1 => ⟨O, ρ, y, o.ext s1, e2, fun w H2 s2 r2 => ?_⟩⟩
  rw [dBin] at ee
  unfold dAdd at ee
  split at ee
  · exact nomatch ee
  · obtain ⟨_, e⟩ := ok_ite ee
    exact nomatch e
  · obtain ⟨_, e⟩ := ok_ite ee
    exact nomatch e
  · obtain ⟨hl, e⟩ := ok_ite ee
    cases e
    obtain ⟨l1, vs, rfl, t1, g1⟩ := (same_rpw s2 r1).lst
    obtain ⟨l2, ws, rfl, t2, g2⟩ := r2.lst
    exact ⟨l1, l2, vs, ws, rfl, rfl, t1, t2, by rw [← g1.length, ← g2.length]; exact lim_line hl, fun p hp => q p _ _ ((s1.trans s2).trans (same_new hp)) (Same.free (s1.trans s2) hp) upd_same (new_items hp (g1.append g2))⟩
  · exact nomatch ee
  · exact nomatch ee
theorem l_mulF {a b : Expr} {a' b' : E} {pos : Pos} (ha : PE X a (tW c X.K M a')) (hb : PE X b (tW c X.K M b')) : PE X (.BinOp a .Mult b pos) (tF c X.K M (.bin .Mult a' b')) := pe_imp (pe_op op_repR ha hb) fun σ H Q ⟨O, ρ, ds, o, ee, q⟩ => by
  rw [ev] at ee
  obtain ⟨x, e1, ee⟩ := bind_ok ee
  obtain ⟨y, e2, ee⟩ := bind_ok ee
  refine ⟨O, ρ, x, o, e1, fun v H1 s1 r1 => ⟨O, ρ, y, o.ext s1, e2, fun w H2 s2 r2 => ?_⟩⟩
  rw [dBin] at ee
  unfold dMul at ee
  split at ee
  · obtain ⟨_, e⟩ := ok_ite ee
    exact nomatch e
  · obtain ⟨_, e⟩ := ok_ite ee
    exact nomatch e
  · obtain ⟨⟨h2, h3, h4⟩, e⟩ := ok_ite ee
    cases e
    obtain ⟨l1, vs, rfl, t1, g1⟩ := (same_rpw s2 r1).lst
    cases r2.int
    have hlen := g1.length
    exact ⟨l1, _, vs, rfl, rfl, t1, h4, h2, by omega, fun p hp => q p _ _ ((s1.trans s2).trans (same_new hp)) (Same.free (s1.trans s2) hp) upd_same (new_items hp (g1.rep _))⟩
  · exact nomatch ee
end
/-! methods of texts -/
theorem rpl_strs {K : PySem.W.Frag} {O : Addr → Prop} {H : Hp} : ∀ {ds : List D} {vs : List V} {ss : List Str}, RpL K O H ds vs → strsOf ds = some ss → vs = ss.map V.str
  | [], vs, ss, h, e => by
    rw [RpL] at h
    cases e
    exact h
  | .str z :: r, vs, ss, h, e => by
    rw [RpL] at h
    obtain ⟨v, q, rfl, t, l⟩ := h
    rw [strsOf] at e
    cases hr : strsOf r with
    | none => rw [hr] at e; cases e
    | some ts =>
      rw [hr] at e
      cases e
      rw [Rp] at t
      subst t
      rw [rpl_strs l hr]
      rfl
  | .non :: _, _, _, _, e => nomatch e
  | .bl _ :: _, _, _, _, e => nomatch e
  | .int _ :: _, _, _, _, e => nomatch e
  | .ref _ :: _, _, _, _, e => nomatch e
  | .tup _ :: _, _, _, _, e => nomatch e
  | .lst _ :: _, _, _, _, e => nomatch e
theorem rpl_ofStrs {K : PySem.W.Frag} {O : Addr → Prop} {H : Hp} : ∀ ss : List Str, RpL K O H (ss.map D.str) (ss.map V.str)
  | [] => RpL.nil
  | s :: ss => RpL.cons rp_str (rpl_ofStrs ss)
def mthName : Mth → Str
  | .join => "join"
  | .split => "split"
  | .index => "index"
theorem mth_str {m : Mth} {x : D} {ys : List D} {d : D} (h : dMth m x ys = .ok d) : ∃ a, x = .str a := by
  cases x with
  | str a => exact ⟨a, rfl⟩
  | _ => exact nomatch h
section
variable {X : Cx} {c : Cf} {M : List Nat}
theorem l_mth_of {m : Mth} {id : String} {r : V → List V → Hp → VK → Prop} {o : Expr} {es : List Expr} {o' : E} {es' : List E} {q0 : Expr} (h : PE X q0 (tBM X.K "str" r (tW c X.K M o') (tWs c X.K M es')))
    (hr : ∀ (O : Addr → Prop) (H : Hp) (a : Str) (ys : List D) (vs : List V) (d : D) (Q : VK), (∀ b, O b → H b ≠ none) → RpWL X.K O H ys vs → dMth m (.str a) ys = .ok d → (∀ u H', Same H H' → Rp X.K O H' d u → Q u H') → r (.str a) vs H Q) : PE X q0 (tE c X.K M (.mth m o' es')) := pe_imp h fun σ H Q ⟨O, ρ, d, ok, ee, q⟩ => by
  rw [ev] at ee
  obtain ⟨x, e1, ee⟩ := bind_ok ee
  obtain ⟨ys, e2, ee⟩ := bind_ok ee
  obtain ⟨a, rfl⟩ := mth_str ee
  refine ⟨O, ρ, _, ok, e1, fun v H1 s1 r1 => ?_⟩
  cases r1.str
  exact ⟨rfl, O, ρ, ys, ok.ext s1, e2, fun vs H2 s2 r2 => hr _ H2 a ys vs d Q ((ok.ext s1).ext s2).dom r2 ee fun u H3 s3 r3 => q u H3 ((s1.trans s2).trans s3) r3⟩
theorem l_mth {m : Mth} {o e : Expr} {es : List Expr} {o' : E} {es' : List E} {apos cpos : Pos} (ho : PE X o (tW c X.K M o')) (ha : PA X (e :: es) (tWs c X.K M es')) (hbase : attributeBase o (mthName m) X.env (eval o X.env) = eval o X.env)
    (hfew : ((backTo cpos (starEach (e :: es) X.env)).all (fun x => !x.1) && (backToKw cpos (keywordEach [] X.env)).all (fun x => x.1.isSome) && decide ((e :: es).length + ([] : List Keyword).length + (if ([] : List Keyword).isEmpty then 0 else 1) < 30)) = true)
    (hline : (apos.endLine == cpos.line) = true) (hs : starEach (e :: es) X.env = (false, eval e X.env) :: starEach es X.env) (hplain : (backTo cpos (starEach es X.env)).any (·.1) = false) : PE X (.Call (.Attribute o (mthName m) apos) (e :: es) [] cpos) (tE c X.K M (.mth m o' es')) := by
  cases m with
  | join =>
    refine l_mth_of (m := .join) (id := "str.join") (o := o) (es := es) (pe_bm PySem.F.plainAttrs_str PySem.F.slot_str_join PySem.F.type_str_join mt_join ho ha hbase hfew hline hs hplain) ?_
    intro O H a ys vs d Q hO hx he q
    have he : dJoin a ys = .ok d := he
    unfold dJoin at he
    split at he
    · obtain ⟨v, rfl, r1⟩ := rpwl_one hx
      split at he
      · rename_i ss hss
        obtain ⟨hl, e⟩ := ok_ite he
        cases e
        obtain ⟨p, us, rfl, t, l⟩ := r1.lst
        have e := rpl_strs l hss
        subst e
        exact ⟨_, p, ss, rfl, rfl, .inl (.inl t), Nat.le_trans hl (show LIM ≤ 16777216 by decide), q _ H (Same.refl H) rp_str⟩
      · exact nomatch he
    · exact nomatch he
  | split =>
    refine l_mth_of (m := .split) (id := "str.split") (o := o) (es := es) (pe_bm PySem.F.plainAttrs_str PySem.F.slot_str_split PySem.F.type_str_split mt_split ho ha hbase hfew hline hs hplain) ?_
    intro O H a ys vs d Q hO hx he q
    have he : dSplit a ys = .ok d := he
    unfold dSplit at he
    split at he
    · obtain ⟨v, rfl, r1⟩ := rpwl_one hx
      cases r1.str
      obtain ⟨⟨h1, h2⟩, e⟩ := ok_ite he
      cases e
      exact ⟨_, _, rfl, rfl, h1, Nat.le_trans (Nat.add_le_add_right h2 2) (show LIM + 2 ≤ sizeLine by decide), fun p hp => q _ _ (same_new hp) (new_lst hp hO (rpl_ofStrs _))⟩
    · exact nomatch he
  | index =>
    refine l_mth_of (m := .index) (id := "str.index") (o := o) (es := es) (pe_bm PySem.F.plainAttrs_str PySem.F.slot_str_index PySem.F.type_str_index mt_sindex ho ha hbase hfew hline hs hplain) ?_
    intro O H a ys vs d Q hO hx he q
    have he : dIndex a ys = .ok d := he
    unfold dIndex at he
    split at he
    · obtain ⟨v, rfl, r1⟩ := rpwl_one hx
      cases r1.str
      split at he
      · rename_i i rest hi
        cases he
        exact ⟨_, _, i, rest, rfl, rfl, hi, q _ H (Same.refl H) rp_int⟩
      · exact nomatch he
    · exact nomatch he
/-! sets of ints, for a moment -/
theorem insU_mem {x k : Int} : ∀ l : List Int, k ∈ insU x l ↔ k = x ∨ k ∈ l
  | [] => by simp [insU]
  | y :: r => by
    rw [insU]
    split
    · simp
    · split
      · rename_i h
        subst h
        simp
      · rw [List.mem_cons, insU_mem r, List.mem_cons]
        constructor
        · rintro (h | h | h)
          · exact .inr (.inl h)
          · exact .inl h
          · exact .inr (.inr h)
        · rintro (h | h | h)
          · exact .inr (.inl h)
          · exact .inl h
          · exact .inr (.inr h)
theorem insU_lt {x : Int} : ∀ l : List Int, l.Pairwise (· < ·) → (insU x l).Pairwise (· < ·)
  | [], _ => by simp [insU]
  | y :: r, h => by
    have h' := List.pairwise_cons.mp h
    rw [insU]
    split
    · rename_i hxy
      refine List.pairwise_cons.mpr ⟨fun z hz => ?_, h⟩
      rcases List.mem_cons.mp hz with rfl | hz
      · exact hxy
      · have := h'.1 z hz
        omega
    · split
      · exact h
      · rename_i h1 h2
        refine List.pairwise_cons.mpr ⟨fun z hz => ?_, insU_lt r h'.2⟩
        rcases (insU_mem r).mp hz with rfl | hz
        · omega
        · exact h'.1 z hz
theorem srtU_mem {k : Int} : ∀ l : List Int, k ∈ srtU l ↔ k ∈ l
  | [] => by simp [srtU]
  | x :: r => by rw [srtU, insU_mem, srtU_mem r, List.mem_cons]
theorem srtU_lt : ∀ l : List Int, (srtU l).Pairwise (· < ·)
  | [] => by simp [srtU]
  | x :: r => insU_lt _ (srtU_lt r)
theorem lt_nodup {l : List Int} (h : l.Pairwise (· < ·)) : l.Nodup := h.imp fun {a b} z e => by
  subst e
  exact absurd z (Int.lt_irrefl _)
theorem srtU_eq {ns l : List Int} (h1 : l.Pairwise (· < ·)) (h2 : ∀ k, k ∈ l ↔ decide (k ∈ ns) = true) : l = srtU ns := by
  refine List.Perm.eq_of_pairwise (le := fun x y : Int => x < y) (fun a b _ _ x y => absurd (Int.lt_trans x y) (Int.lt_irrefl _)) h1 (srtU_lt ns) ((List.perm_ext_iff_of_nodup (lt_nodup h1) (lt_nodup (srtU_lt ns))).mpr fun k => ?_)
  rw [h2 k, srtU_mem, decide_eq_true_eq]
def rSetT (K : PySem.W.Frag) (w : World) : List V → Hp → VK → Prop := fun xs H Q => ∃ (l : Addr) (ns : List Int), xs = [.ref l] ∧ SqT K H l (ns.map V.int) ∧ ns.length < 64 ∧ ∀ p k, k ≤ ns.length → H p = none → Q (.ref p) (upd H p (SetO w p (fun j => decide (j ∈ ns)) k))
theorem cr_setT (hc : X.calm = true) : CallR X (.type "set") (rSetT X.K X.w) := by
  intro pins s σ H xs us Q I r h
  obtain ⟨l, ns, rfl, hT, hlen, q⟩ := h
  rw [Vals.ref1 r]
  obtain ⟨its, rv, ht, _⟩ := I.tuple hT
  refine call_set_tupI (items := its.toArray) ns (I.ok.hd hc) ht (by rw [List.toList_toArray]; exact rv.ints) (by unfold scanBound; omega) fun h' tk k R hk kp => ?_
  exact ⟨.ref _, upd H s.heap.objs.size (SetO X.w s.heap.objs.size (fun j => decide (j ∈ ns)) k), I.laid (t' := tk) kp (Nat.le_refl _) (setO_new R), rfl, q _ k hk (I.hok.fresh (Nat.le_refl _))⟩
def rLenSet (w : World) : List V → Hp → VK → Prop := fun vs H Q => ∃ (a : Addr) (S : Int → Bool) (n : Nat), vs = [.ref a] ∧ H a = some (SetO w a S n) ∧ n < 64 ∧ ∀ ks : List Int, ks.Nodup → (∀ k, k ∈ ks ↔ S k = true) → Q (.int (ks.length : Nat)) H
theorem cr_lenSet : CallR X (.builtin "len") (rLenSet X.w) := by
  intro pins s σ H vs us Q I r h
  obtain ⟨a, S, n, rfl, ha, hn, q⟩ := h
  rw [Vals.ref1 r]
  obtain ⟨o, es, ep, t, ho, hx, hd, g, nd, hm, hb, hf, hsz, _⟩ := setO_get I ha
  refine call_len_set ho hx hd hf (by omega) ⟨.int es.size, H, I.tok _, ⟨_, rfl⟩, ?_⟩
  have := q (es.toList.map keyOf) nd fun k => (hm k).symm
  rw [List.length_map, Array.length_toList] at this
  exact this
theorem l_set {a : Expr} {a' f : E} {g : D → R D} {q0 : Expr} {r : List V → Hp → VK → Prop} (h : PE X q0 (tCB r (tCons (tCB (rSetT X.K X.w) (tWs c X.K M [a'])) tNil))) (he : ∀ ρ, ev c f ρ = (ev c a' ρ).bind g)
    (hg : ∀ x d, g x = .ok d → ∃ xs ns, x = .tup xs ∧ intsOf xs = some ns ∧ ns.length < 64 ∧ ∀ (O : Addr → Prop) (H : Hp) (p : Addr) (k : Nat) (Q : VK), (∀ b, O b → H b ≠ none) → k ≤ ns.length → H p = some (SetO X.w p (fun j => decide (j ∈ ns)) k) → (∀ u H', Same H H' → Rp X.K O H' d u → Q u H') → r [.ref p] H Q) : PE X q0 (tE c X.K M f) := pe_imp h fun σ H Q ⟨O, ρ, d, ok, ee, q⟩ => by
  rw [he] at ee
  obtain ⟨x, e1, ee⟩ := bind_ok ee
  obtain ⟨xs, ns, rfl, hi, hl, hr⟩ := hg x d ee
  refine ⟨O, ρ, [.tup xs], ok, by rw [evs, e1]; rfl, fun vs H1 s1 r1 => ?_⟩
  obtain ⟨v, rfl, r2⟩ := rpwl_one r1
  obtain ⟨l, us, rfl, t, rl⟩ := r2.tup
  have e := rpl_ints rl hi
  subst e
  refine ⟨l, ns, rfl, t.sq, hl, fun p k hk hp => ?_⟩
  have s2 : Same H1 (upd H1 p (SetO X.w p (fun j => decide (j ∈ ns)) k)) := same_new hp
  exact hr _ _ p k Q ((ok.ext s1).ext s2).dom hk upd_same fun u H3 s3 r3 => q u H3 ((s1.trans s2).trans s3) r3
theorem l_sst {a : Expr} {a' : E} {p p2 q1 pos : Pos} (hc : X.calm = true) (hg : Gl X "sorted") (hm : X.mg "sorted" = none) (hg2 : Gl X "set") (hm2 : X.mg "set" = none) (ha : PA X [a] (tWs c X.K M [a'])) (hs : starEach [a] X.env = [(false, eval a X.env)]) : PE X (.Call (.Name "sorted" p) [.Call (.Name "set" p2) [a] [] q1] [] pos) (tE c X.K M (.sst a')) := by
  have inner : PE X (.Call (.Name "set" p2) [a] [] q1) (tCB (rSetT X.K X.w) (tWs c X.K M [a'])) := pe_callTy (cr_setT hc) hg2 hm2 (by decide +kernel) ha (by decide +kernel) (by decide +kernel) hs rfl
  refine l_set (a := a) (pe_callB (cr_sortedSet hc) hg hm (by decide +kernel) (pa_cons inner pa_nil rfl) (by decide +kernel) (by decide +kernel) rfl rfl) (fun ρ => by rw [ev]) fun x d h => ?_
  unfold dSst at h
  split at h
  · rename_i xs
    split at h
    · rename_i ns hi
      obtain ⟨hl, e⟩ := ok_ite h
      cases e
      refine ⟨xs, ns, rfl, hi, hl, fun O H p k Q hO hk hp q => ⟨p, _, k, rfl, hp, by omega, fun l p' h1 h2 _ hp' => ?_⟩⟩
      rw [srtU_eq h1 h2]
      exact q _ _ (same_new hp') (new_lst hp' hO (rpl_mi _))
    · exact nomatch h
  · exact nomatch h
theorem l_lss {a : Expr} {a' : E} {p p2 q1 pos : Pos} (hc : X.calm = true) (hg : Gl X "len") (hm : X.mg "len" = none) (hg2 : Gl X "set") (hm2 : X.mg "set" = none) (ha : PA X [a] (tWs c X.K M [a'])) (hs : starEach [a] X.env = [(false, eval a X.env)]) : PE X (.Call (.Name "len" p) [.Call (.Name "set" p2) [a] [] q1] [] pos) (tE c X.K M (.lss a')) := by
  have inner : PE X (.Call (.Name "set" p2) [a] [] q1) (tCB (rSetT X.K X.w) (tWs c X.K M [a'])) := pe_callTy (cr_setT hc) hg2 hm2 (by decide +kernel) ha (by decide +kernel) (by decide +kernel) hs rfl
  refine l_set (a := a) (pe_callB cr_lenSet hg hm (by decide +kernel) (pa_cons inner pa_nil rfl) (by decide +kernel) (by decide +kernel) rfl rfl) (fun ρ => by rw [ev]) fun x d h => ?_
  unfold dLss at h
  split at h
  · rename_i xs
    split at h
    · rename_i ns hi
      obtain ⟨hl, e⟩ := ok_ite h
      cases e
      refine ⟨xs, ns, rfl, hi, hl, fun O H p k Q hO hk hp q => ⟨p, _, k, rfl, hp, by omega, fun ks h1 h2 => ?_⟩⟩
      have e : ks.length = (srtU ns).length := ((List.perm_ext_iff_of_nodup h1 (lt_nodup (srtU_lt ns))).mpr fun z => by rw [h2 z, srtU_mem, decide_eq_true_eq]).length_eq
      rw [e]
      exact q _ H (Same.refl H) rp_int
    · exact nomatch h
  · exact nomatch h
/-! replace by two texts of the top; a dict of the top -/
def DEnt (K : PySem.W.Frag) : Option Value → Option D → Prop
  | none, none => True
  | some u, some d => ∃ v, RelV v u ∧ ∀ O H, Rp K O H d v
  | _, _ => False
theorem l_rpl {o : Expr} {o' : E} {x y a b : Str} {t u : Tok} {p1 p2 apos cpos : Pos} (ho : PE X o (tW c X.K M o')) (hg1 : Gl X x) (hg2 : Gl X y) (h1 : X.mg x = some (.str a t)) (h2 : X.mg y = some (.str b u)) (ht : t ≠ 0) (hu : u ≠ 0) (htu : t ≠ u)
    (e1 : c.glb.lookup x = some (.str a)) (e2 : c.glb.lookup y = some (.str b)) (d1 : (x == ("__debug__" : Str)) = false) (d2 : (y == ("__debug__" : Str)) = false) (hbase : attributeBase o "replace" X.env (eval o X.env) = eval o X.env) (hline : (apos.endLine == cpos.line) = true) : PE X (.Call (.Attribute o "replace" apos) [.Name x p1, .Name y p2] [] cpos) (tE c X.K M (.rpl o' x y)) := by
  refine ⟨fun pins s σ H Q I ⟨O, ρ, d, ok, ee, q⟩ => ?_⟩
  rw [ev, e1, e2] at ee
  obtain ⟨v, ev1, ee⟩ := bind_ok ee
  cases v with
  | str z =>
    obtain ⟨⟨g1, g2, g3⟩, e⟩ := ok_ite ee
    cases e
    refine PySem.Call_method2 hbase rfl hline (thn (ho.run pins s σ H (fun v H1 => v = .str z ∧ Same H H1) I ⟨O, ρ, _, ok, ev1, fun v H1 s1 r1 => ⟨r1.str, s1⟩⟩) fun v s1 ⟨x1, H1, I1, r1, q1, s1'⟩ => ?_)
    subst q1
    obtain ⟨tz, rfl⟩ := r1
    refine ⟨"str", _, PySem.F.plainAttrs_str, PySem.F.slot_str_replace, PySem.F.type_str_replace, typeIs_str _ _ _, (fun _ e => nomatch e), Calls.callWith_builtin rfl (Calls.evalArgs_plain (Calls.spliced_cons ?_))⟩
    refine ld_glob I1 hg1 h1 (Calls.spliced_cons (ld_glob I1 hg2 h2 (Calls.spliced_nil ?_) d2)) d1
    refine PySem.SC.replace ht hu htu g1 ?_ fun t' k => ⟨.str (Txt.replace z a b), H1, I1.tok k, ⟨t', rfl⟩, q _ H1 s1' rp_str⟩
    have h3 : (z.length + 1) * b.length ≤ (1000000 + 1) * 14 := Nat.mul_le_mul (Nat.add_le_add_right g2 1) g3
    have h4 : z.length ≤ 1000000 := g2
    omega
  | _ => exact nomatch ee
theorem l_kin {a : Expr} {a' : E} {x : Str} {kvs : List (Str × D)} {dd : Addr} {es : Array DictEntry} {m : Nat} {neg : Bool} {px pos : Pos} (ha : PE X a (tW c X.K M a')) (hg : Gl X x) (hm : X.mg x = some (.ref dd)) (DD : KDict X.K X.w dd es m) (e1 : c.dct.lookup x = some kvs)
    (hent : ∀ z, ∃ r, PySem.W.nsIn X.K dd z = some r ∧ DEnt X.K r (kvs.lookup z)) (d1 : (x == ("__debug__" : Str)) = false) : PE X (.Compare a [if neg = true then .NotIn else .In] [.Name x px] pos) (tE c X.K M (.kin neg a' x)) := by
  have hx : PE X (.Name x px) (tC (.ref dd)) := pe_glob hg hm rfl d1
  have hs : ∀ z r, DEnt X.K r (kvs.lookup z) → r.isSome = (kvs.lookup z).isSome := fun z r h => by
    cases r <;> cases hk : kvs.lookup z <;> rw [hk] at h <;> first | rfl | exact h.elim
  cases neg with
  | true =>
    refine pe_imp (pe_cmpR (op_notIn_kd DD) ha hx rfl) fun σ H Q ⟨O, ρ, d, ok, ee, q⟩ => ?_
    rw [ev, e1] at ee
    obtain ⟨v, ev1, ee⟩ := bind_ok ee
    refine ⟨O, ρ, v, ok, ev1, fun w H1 s1 r1 => ?_⟩
    cases v with
    | str z =>
      cases ee
      cases r1.str
      obtain ⟨r, h1, h2⟩ := hent z
      refine ⟨z, r, rfl, rfl, h1, ?_⟩
      rw [hs z r h2]
      exact q _ H1 s1 rp_bl
    | _ => exact nomatch ee
  | false =>
    refine pe_imp (pe_cmpR (op_in_kd DD) ha hx rfl) fun σ H Q ⟨O, ρ, d, ok, ee, q⟩ => ?_
    rw [ev, e1] at ee
    obtain ⟨v, ev1, ee⟩ := bind_ok ee
    refine ⟨O, ρ, v, ok, ev1, fun w H1 s1 r1 => ?_⟩
    cases v with
    | str z =>
      cases ee
      cases r1.str
      obtain ⟨r, h1, h2⟩ := hent z
      refine ⟨z, r, rfl, rfl, h1, ?_⟩
      rw [hs z r h2]
      exact q _ H1 s1 rp_bl
    | _ => exact nomatch ee
theorem l_kinT {a : Expr} {a' : E} {x : Str} {kvs : List (Str × D)} {dd : Addr} {es : Array DictEntry} {m : Nat} {neg : Bool} {px pos : Pos} (ha : PE X a (tW c X.K M a')) (hg : Gl X x) (hm : X.mg x = some (.ref dd)) (DD : KDict X.K X.w dd es m) (e1 : c.dct.lookup x = some kvs)
    (hent : ∀ z, ∃ r, PySem.W.nsIn X.K dd z = some r ∧ DEnt X.K r (kvs.lookup z)) (d1 : (x == ("__debug__" : Str)) = false) : PT X (.Compare a [if neg = true then .NotIn else .In] [.Name x px] pos) (tT c X.K M (.kin neg a' x)) := by
  have hx : PE X (.Name x px) (tC (.ref dd)) := pe_glob hg hm rfl d1
  have hs : ∀ z r, DEnt X.K r (kvs.lookup z) → r.isSome = (kvs.lookup z).isSome := fun z r h => by
    cases r <;> cases hk : kvs.lookup z <;> rw [hk] at h <;> first | rfl | exact h.elim
  cases neg with
  | true =>
    refine pt_imp (pt_cmpR (op_notIn_kd DD) ha hx rfl) fun σ H Q ⟨O, ρ, d, b, ok, ee, et, q⟩ => ?_
    rw [ev, e1] at ee
    obtain ⟨v, ev1, ee⟩ := bind_ok ee
    refine ⟨O, ρ, v, ok, ev1, fun w H1 s1 r1 => ?_⟩
    cases v with
    | str z =>
      cases ee
      cases et
      cases r1.str
      obtain ⟨r, h1, h2⟩ := hent z
      refine ⟨z, r, rfl, rfl, h1, _, rfl, ?_⟩
      rw [hs z r h2]
      exact q H1 s1
    | _ => exact nomatch ee
  | false =>
    refine pt_imp (pt_cmpR (op_in_kd DD) ha hx rfl) fun σ H Q ⟨O, ρ, d, b, ok, ee, et, q⟩ => ?_
    rw [ev, e1] at ee
    obtain ⟨v, ev1, ee⟩ := bind_ok ee
    refine ⟨O, ρ, v, ok, ev1, fun w H1 s1 r1 => ?_⟩
    cases v with
    | str z =>
      cases ee
      cases et
      cases r1.str
      obtain ⟨r, h1, h2⟩ := hent z
      refine ⟨z, r, rfl, rfl, h1, _, rfl, ?_⟩
      rw [hs z r h2]
      exact q H1 s1
    | _ => exact nomatch ee
theorem ix_kd {dd : Addr} {es : Array DictEntry} {m : Nat} (DD : KDict X.K X.w dd es m) : IxR X (fun x y H Q => ∃ (z : Str) (u0 : Value) (v0 : V), x = .ref dd ∧ y = .str z ∧ PySem.W.nsIn X.K dd z = some (some u0) ∧ RelV v0 u0 ∧ Q v0 H) := by
  intro value slice pins s σ H x y v u Q I rx ry h hs
  have hx : x = .ref dd := by
    obtain ⟨_, _, _, e, _⟩ := h
    exact e
  subst hx
  have hv : v = .ref dd := rx
  subst hv
  exact tail_any (ops := [.ref dd, u]) (kd_type DD I) (PySem.F.slot_dict_getitem.lookup) (op_item_kd DD pins s σ H _ _ _ _ Q I rx ry h) hs
theorem l_kget {a : Expr} {a' : E} {x : Str} {kvs : List (Str × D)} {dd : Addr} {es : Array DictEntry} {m : Nat} {px pos : Pos} (ha : PE X a (tW c X.K M a')) (hg : Gl X x) (hm : X.mg x = some (.ref dd)) (DD : KDict X.K X.w dd es m) (e1 : c.dct.lookup x = some kvs)
    (hent : ∀ z, ∃ r, PySem.W.nsIn X.K dd z = some r ∧ DEnt X.K r (kvs.lookup z)) (d1 : (x == ("__debug__" : Str)) = false) (hs : PlainIx a) : PE X (.Subscript (.Name x px) a pos) (tE c X.K M (.kget x a')) := by
  have hx : PE X (.Name x px) (tC (.ref dd)) := pe_glob hg hm rfl d1
  refine pe_imp (pe_ix (ix_kd DD) hx ha hs) fun σ H Q ⟨O, ρ, d, ok, ee, q⟩ => ?_
  rw [ev, e1] at ee
  obtain ⟨v, ev1, ee⟩ := bind_ok ee
  refine ⟨O, ρ, v, ok, ev1, fun w H1 s1 r1 => ?_⟩
  cases v with
  | str z =>
    cases r1.str
    obtain ⟨r, h1, h2⟩ := hent z
    unfold dKget at ee
    dsimp only at ee
    cases hk : kvs.lookup z with
    | none => rw [hk] at ee; exact nomatch ee
    | some d' =>
      rw [hk] at ee h2
      cases ee
      cases r with
      | none => exact h2.elim
      | some u0 =>
        obtain ⟨v0, r0, rp0⟩ := h2
        exact ⟨z, u0, v0, rfl, rfl, h1, r0, q _ H1 s1 (rp0 _ _)⟩
  | _ => exact nomatch ee
end
end LC

set_option Elab.async false
set_option linter.all false
set_option maxRecDepth 100000
set_option maxHeartbeats 1000000
/-! LC: statements -/
namespace LC
open PySem PySem.Spec PyProof.Rows L2

structure OkS (K : PySem.W.Frag) (O : Addr → Prop) (G : Hp) (M : List Nat) (ρ : Rho) (σ : L2.St) (H : Hp) : Prop where
  ok : Ok K O M ρ σ H
  same : Same G H
  fresh : ∀ i ∈ M, ∀ a, σ[i]? = some (some (.ref a)) → G a = none

section
variable {K : PySem.W.Frag} {O O' O2 : Addr → Prop} {G H H' H2 : Hp} {M M' : List Nat} {ρ ρ' : Rho} {σ σ' : L2.St} {d : D} {v : V}
theorem Keep.refl : Keep O O H H := ⟨fun _ _ h _ => h, fun _ _ h => h⟩
theorem Keep.trans (a : Keep O O' H H') (b : Keep O' O2 H' H2) : Keep O O2 H H2 := by
  refine ⟨fun x o h n => b.heap x o (a.heap x o h n) ⟨fun z => n.1 (a.own x ⟨o, h, n.2⟩ z), n.2⟩, fun x h z => ?_⟩
  by_cases ho : O x
  · exact ho
  · obtain ⟨o, q, nt⟩ := h
    exact a.own x ⟨o, q, nt⟩ (b.own x ⟨o, a.heap x o q ⟨ho, nt⟩, nt⟩ z)
theorem Keep.same (s : Same H H') (k : ∀ b, (∃ o, H b = some o ∧ NT o) → O' b → O b) : Keep O O' H H' := ⟨fun b o h _ => s b o h, k⟩
/-- ownership given up -/
theorem av_sub (hs : ∀ i ∈ M', i ∈ M) : ∀ b, Av O M' σ b → Av O M σ b := fun b h => by
  rcases h with h | ⟨i, hi, e⟩
  · exact .inl h
  · exact .inr ⟨i, hs i hi, e⟩
theorem Ok.drop (h : Ok K O M ρ σ H) (hs : ∀ i ∈ M', i ∈ M) : Ok K O M' ρ σ H := by
  have kp : Keep (Av O M σ) (Av O M' σ) H H := ⟨fun b o e _ => e, fun b _ z => av_sub hs b z⟩
  refine ⟨h.o0, h.len, h.non, fun i d e n => ?_, fun i d e m => ?_, fun i j a hi hj => h.inj i j a (hs i hi) (hs j hj)⟩
  · by_cases hm : i ∈ M
    · obtain ⟨a, vs, ds, rfl, e2, ha, ho, r⟩ := h.own i d e hm
      refine ⟨.ref a, e2, rp_lst ha (fun z => ?_) (kp.rpl _ _ r)⟩
      rcases z with z | ⟨j, hj, e3⟩
      · exact ho z
      · have := h.inj i j a hm (hs j hj) e2 e3
        subst this
        exact n hj
    · obtain ⟨v, e2, r⟩ := h.val i d e hm
      exact ⟨v, e2, kp.rp _ _ r⟩
  · obtain ⟨a, vs, ds, e1, e2, ha, ho, r⟩ := h.own i d e (hs i m)
    exact ⟨a, vs, ds, e1, e2, ha, ho, kp.rpl _ _ r⟩
theorem OkS.drop (h : OkS K O G M ρ σ H) (hs : ∀ i ∈ M', i ∈ M) : OkS K O G M' ρ σ H := ⟨h.ok.drop hs, h.same, fun i hi a e => h.fresh i (hs i hi) a e⟩
theorem OkS.ext (h : OkS K O G M ρ σ H) (s : Same H H') : OkS K O G M ρ σ H' := ⟨h.ok.ext s, h.same.trans s, h.fresh⟩
theorem OkS.set {i : Nat} (h : OkS K O G M ρ σ H) (hi : i ∉ M) (r : Rp K (Av O M σ) H d v) : OkS K O G M (ρ.set i (some d)) (σ.set i (some v)) H :=
  ⟨h.ok.set hi r, h.same, fun j hj a e => h.fresh j hj a (by rw [List.getElem?_set_ne (fun z => hi (by rw [z]; exact hj))] at e; exact e)⟩
/-- a slot takes a new list of its own -/
theorem OkS.take {i : Nat} {p : Addr} {vs : List V} {ds : List D} (h : OkS K O G M ρ σ H) (hi : i ∉ M) (s : Same H H') (hp : H p = none) (hv : H' p = some (.lst vs)) (r : RpL K (fun b => Av O M σ b ∨ b = p) H' ds vs) (hl : i < ρ.length) :
    OkS K O G (i :: M) (ρ.set i (some (.lst ds))) (σ.set i (some (.ref p))) H' ∧ Keep (Av O M σ) (Av O (i :: M) (σ.set i (some (.ref p)))) H H' := by
  have h' := h.ext s
  have nav : ∀ b, Av O (i :: M) (σ.set i (some (.ref p))) b → b = p ∨ Av O M σ b := fun b z => by
    rcases z with z | ⟨j, hj, e⟩
    · exact .inr (.inl z)
    · by_cases hij : i = j
      · subst hij
        rw [List.getElem?_set] at e
        simp only [if_true] at e
        split at e
        · cases e
          exact .inl rfl
        · exact nomatch e
      · rw [List.getElem?_set_ne hij] at e
        rcases List.mem_cons.mp hj with q | q
        · exact absurd q.symm hij
        · exact .inr (.inr ⟨j, q, e⟩)
  have kpp : Keep (Av O M σ) (Av O (i :: M) (σ.set i (some (.ref p)))) H H' := Keep.same s fun b hb z => by
    rcases nav b z with q | q
    · exact absurd hp (by rw [← q]; exact liv_ne hb)
    · exact q
  have nO : ¬ O p := fun z => h.ok.o0 p z hp
  have ne : ∀ j ∈ M, ∀ a, σ[j]? = some (some (.ref a)) → a ≠ p := fun j hj a e z => by
    subst z
    exact h.ok.dom a (.inr ⟨j, hj, e⟩) hp
  have nM : ∀ j ∈ M, i ≠ j := fun j hj z => hi (by rw [z]; exact hj)
  have hself : (σ.set i (some (.ref p)))[i]? = some (some (.ref p)) := List.getElem?_set_self (by rw [h.ok.len]; exact hl)
  have hG : G p = none := Same.free h.same hp
  have sr : RpL K (Av O (i :: M) (σ.set i (some (.ref p)))) H' ds vs := Keep.rpl ⟨fun b ob hb _ => hb, fun b _ z => by
    rcases nav b z with q | q
    · exact .inr q
    · exact .inl q⟩ _ _ r
  refine ⟨⟨⟨fun b hb => h'.ok.o0 b hb, by rw [List.length_set, List.length_set, h.ok.len], fun j e => ?_, fun j d' e n => ?_, fun j d' e m => ?_, fun j k a hj hk e1 e2 => ?_⟩, h'.same, fun j hj a e => ?_⟩, kpp⟩
  · by_cases hij : i = j
    · subst hij
      rw [List.getElem?_set_self hl] at e
      exact nomatch e
    · rw [List.getElem?_set_ne hij] at e ⊢
      exact h.ok.non j e
  · have hij : i ≠ j := fun z => n (by rw [z]; exact List.mem_cons_self)
    rw [List.getElem?_set_ne hij] at e ⊢
    obtain ⟨v, e2, r2⟩ := h.ok.val j d' e (fun z => n (List.mem_cons_of_mem _ z))
    exact ⟨v, e2, kpp.rp _ _ r2⟩
  · by_cases hij : i = j
    · subst hij
      rw [List.getElem?_set_self hl] at e
      cases e
      exact ⟨p, vs, ds, rfl, hself, hv, nO, sr⟩
    · rw [List.getElem?_set_ne hij] at e ⊢
      have hm : j ∈ M := by
        rcases List.mem_cons.mp m with q | q
        · exact absurd q.symm hij
        · exact q
      obtain ⟨a, ws, es, e1, e2, ha, ho, r2⟩ := h.ok.own j d' e hm
      exact ⟨a, ws, es, e1, e2, s _ _ ha, ho, kpp.rpl _ _ r2⟩
  · rcases List.mem_cons.mp hj with qj | qj <;> rcases List.mem_cons.mp hk with qk | qk
    · rw [qj, qk]
    · subst qj
      rw [hself] at e1
      cases e1
      rw [List.getElem?_set_ne (nM k qk)] at e2
      exact absurd rfl (ne k qk _ e2)
    · subst qk
      rw [hself] at e2
      cases e2
      rw [List.getElem?_set_ne (nM j qj)] at e1
      exact absurd rfl (ne j qj _ e1)
    · rw [List.getElem?_set_ne (nM j qj)] at e1
      rw [List.getElem?_set_ne (nM k qk)] at e2
      exact h.ok.inj j k a qj qk e1 e2
  · rcases List.mem_cons.mp hj with q | q
    · subst q
      rw [hself] at e
      cases e
      exact hG
    · rw [List.getElem?_set_ne (nM j q)] at e
      exact h.fresh j q a e
/-- an owned list is changed -/
theorem OkS.mut {i : Nat} {a : Addr} {vs ws : List V} {ds es : List D} (h : OkS K O G M ρ σ H) (hi : i ∈ M) (e : σ[i]? = some (some (.ref a))) (r : RpL K (Av O M σ) H es ws) (hl : i < ρ.length) :
    OkS K O G M (ρ.set i (some (.lst es))) σ (upd H a (.lst ws)) ∧ Keep (Av O M σ) (Av O M σ) H (upd H a (.lst ws)) := by
  have ava : Av O M σ a := .inr ⟨i, hi, e⟩
  have kp : Keep (Av O M σ) (Av O M σ) H (upd H a (.lst ws)) := ⟨fun b o hb n => by
    rw [upd_ne (fun z => n.1 (by rw [z]; exact ava))]
    exact hb, fun _ _ z => z⟩
  have hd : ∀ b, H b ≠ none → upd H a (.lst ws) b ≠ none := fun b hb => by
    by_cases q : b = a
    · rw [q, upd_same]
      exact fun z => nomatch z
    · rw [upd_ne q]
      exact hb
  refine ⟨⟨⟨fun b hb => hd b (h.ok.o0 b hb), by rw [List.length_set, h.ok.len], fun j q => ?_, fun j d' q n => ?_, fun j d' q m => ?_, h.ok.inj⟩, fun b o hb => ?_, h.fresh⟩, kp⟩
  · by_cases hij : i = j
    · subst hij
      rw [List.getElem?_set_self hl] at q
      exact nomatch q
    · rw [List.getElem?_set_ne hij] at q
      exact h.ok.non j q
  · have hij : i ≠ j := fun z => n (by rw [← z]; exact hi)
    rw [List.getElem?_set_ne hij] at q
    obtain ⟨v, e2, r2⟩ := h.ok.val j d' q n
    exact ⟨v, e2, kp.rp _ _ r2⟩
  · by_cases hij : i = j
    · subst hij
      rw [List.getElem?_set_self hl] at q
      cases q
      obtain ⟨d0, hd0⟩ := h.ok.slot e
      obtain ⟨a', _, _, _, e2, _, ho, _⟩ := h.ok.own i d0 hd0 hi
      rw [e] at e2
      cases e2
      exact ⟨a, ws, es, rfl, e, upd_same, ho, kp.rpl _ _ r⟩
    · rw [List.getElem?_set_ne hij] at q
      obtain ⟨a', us, gs, e1, e2, ha, ho, r2⟩ := h.ok.own j d' q m
      have hne : a' ≠ a := fun z => by
        subst z
        exact hij (h.ok.inj i j a' hi m e e2)
      exact ⟨a', us, gs, e1, e2, by rw [upd_ne hne]; exact ha, ho, kp.rpl _ _ r2⟩
  · have hne : b ≠ a := fun z => by
      have := h.fresh i hi a e
      rw [← z, hb] at this
      exact nomatch this
    rw [upd_ne hne]
    exact h.same b o hb
end
end LC

set_option Elab.async false
set_option linter.all false
set_option maxRecDepth 100000
set_option maxHeartbeats 1000000
/-! LC: statements, their readings -/
namespace LC
open PySem PySem.Spec PyProof.Rows L2
def Fin1 (K : PySem.W.Frag) (O : Addr → Prop) (G : Hp) (M M' : List Nat) (σ : L2.St) (H : Hp) (Dn : Ends) : Fl → Prop
  | .nx ρ' => ∀ σ' H', OkS K O G M' ρ' σ' H' → Keep (Av O M σ) (Av O M' σ') H H' → Dn.nx σ' H'
  | .rt d => ∀ v H', Same G H' → Rp K O H' d v → Dn.rt v H'
def tS (c : Cf) (wf : Nat) (K : PySem.W.Frag) (M M' : List Nat) (s : S) : TS := fun Dn σ H => ∃ O G ρ f, OkS K O G M ρ σ H ∧ xs c wf s ρ = .ok f ∧ Fin1 K O G M M' σ H Dn f
def tSs (c : Cf) (wf : Nat) (K : PySem.W.Frag) (M M' : List Nat) (ss : List S) : TS := fun Dn σ H => ∃ O G ρ f, OkS K O G M ρ σ H ∧ xss c wf ss ρ = .ok f ∧ Fin1 K O G M M' σ H Dn f
section
variable {X : Cx} {c : Cf} {wf : Nat} {M M1 M2 M' : List Nat} {st : Stmt} {sts : List Stmt}
theorem ps_imp {t t' : TS} (h : PS X st t) (q : ∀ Dn σ H, t' Dn σ H → t Dn σ H) : PS X st t' := ⟨fun pins s σ H Dn I w => h.run pins s σ H Dn I (q Dn σ H w)⟩
theorem pss_imp {t t' : TS} (h : PSs X sts t) (q : ∀ Dn σ H, t' Dn σ H → t Dn σ H) : PSs X sts t' := ⟨fun pins s σ H Dn I w => h.run pins s σ H Dn I (q Dn σ H w)⟩
theorem fin_weak {K : PySem.W.Frag} {O : Addr → Prop} {G : Hp} {σ : L2.St} {H : Hp} {Dn : Ends} {f : Fl} (hs : ∀ i ∈ M2, i ∈ M1) (h : Fin1 K O G M M2 σ H Dn f) : Fin1 K O G M M1 σ H Dn f := by
  cases f with
  | nx ρ' => exact fun σ' H' o k => h σ' H' (o.drop hs) ⟨k.heap, fun b hb z => k.own b hb (av_sub hs b z)⟩
  | rt d => exact h
/-- less owned behind -/
theorem ss_weak {ss : List S} (hs : ∀ i ∈ M2, i ∈ M1) (h : PSs X sts (tSs c wf X.K M M1 ss)) : PSs X sts (tSs c wf X.K M M2 ss) := pss_imp h fun Dn σ H ⟨O, G, ρ, f, o, e, q⟩ => ⟨O, G, ρ, f, o, e, fin_weak hs q⟩
theorem ss_nil : PSs X [] (tSs c wf X.K M M []) := pss_imp pss_nil fun Dn σ H ⟨O, G, ρ, f, o, e, q⟩ => by
  rw [xss] at e
  cases e
  exact q σ H o Keep.refl
theorem ss_cons {s : S} {ss : List S} (h1 : PS X st (tS c wf X.K M M1 s)) (h2 : PSs X sts (tSs c wf X.K M1 M2 ss)) : PSs X (st :: sts) (tSs c wf X.K M M2 (s :: ss)) := pss_imp (pss_cons h1 h2) fun Dn σ H ⟨O, G, ρ, f, o, e, q⟩ => by
  rw [xss] at e
  obtain ⟨z, e1, e⟩ := bind_ok e
  refine ⟨O, G, ρ, z, o, e1, ?_⟩
  cases z with
  | nx ρ' =>
    intro σ' H' o' k'
    refine ⟨O, G, ρ', f, o', e, ?_⟩
    cases f with
    | nx ρ2 => exact fun σ2 H2 o2 k2 => q σ2 H2 o2 (k'.trans k2)
    | rt d => exact q
  | rt d =>
    cases e
    exact q
theorem ss_frz {i : Nat} {ss : List S} (hs : ∀ j ∈ M1, j ∈ M) (h : PSs X sts (tSs c wf X.K M1 M2 ss)) : PSs X sts (tSs c wf X.K M M2 (.frz i :: ss)) := pss_imp h fun Dn σ H ⟨O, G, ρ, f, o, e, q⟩ => by
  rw [xss, xs] at e
  refine ⟨O, G, ρ, f, o.drop hs, e, ?_⟩
  have k0 : Keep (Av O M σ) (Av O M1 σ) H H := ⟨fun _ _ h _ => h, fun b _ z => av_sub hs b z⟩
  cases f with
  | nx ρ2 => exact fun σ2 H2 o2 k2 => q σ2 H2 o2 (k0.trans k2)
  | rt d => exact q
theorem s_pas {pos : Pos} : PS X (.Pass pos) (tS c wf X.K M M .pas) := ps_imp ps_pass fun Dn σ H ⟨O, G, ρ, f, o, e, q⟩ => by
  rw [xs] at e
  cases e
  exact q σ H o Keep.refl
theorem s_ret {e : Expr} {e' : E} {pos : Pos} (h : PE X e (tE c X.K M e')) : PS X (.Return (some e) pos) (tS c wf X.K M M' (.ret e')) := ps_imp (ps_ret h) fun Dn σ H ⟨O, G, ρ, f, o, ee, q⟩ => by
  rw [xs] at ee
  obtain ⟨d, e1, ee⟩ := bind_ok ee
  cases ee
  exact ⟨O, ρ, d, o.ok, e1, fun v H1 s1 r1 => q v H1 (o.same.trans s1) (Keep.rp ⟨fun _ _ h _ => h, fun b _ z => .inl z⟩ _ _ r1)⟩
theorem s_retN {pos : Pos} : PS X (.Return none pos) (tS c wf X.K M M' (.ret (.cst .non))) := ps_imp ps_retN fun Dn σ H ⟨O, G, ρ, f, o, ee, q⟩ => by
  rw [xs, ev] at ee
  cases ee
  exact q _ H o.same rp_non
/-- the owned but one -/
def wo (M : List Nat) (i : Nat) : List Nat := M.filter (fun j => j != i)
theorem wo_sub {i : Nat} : ∀ j ∈ wo M i, j ∈ M := fun j hj => (List.mem_filter.mp hj).1
theorem wo_not {i : Nat} : i ∉ wo M i := fun h => by
  have := (List.mem_filter.mp h).2
  simp at this
/-- x = e, stored as target i by any rule that reads as one -/
theorem s_set_of {i : Nat} {e' : E} (h : PS X st (tAsg (tE c X.K M e') (gName i))) : PS X st (tS c wf X.K M (wo M i) (.set i e')) := ps_imp h fun Dn σ H ⟨O, G, ρ, f, o, ee, q⟩ => by
  rw [xs] at ee
  obtain ⟨d, e1, ee⟩ := bind_ok ee
  cases ee
  refine ⟨O, ρ, d, o.ok, e1, fun v H1 s1 r1 => ?_⟩
  have o1 := (o.ext s1).drop (M' := wo M i) wo_sub
  have k0 : Keep (Av O M σ) (Av O (wo M i) σ) H1 H1 := ⟨fun _ _ h _ => h, fun b _ z => av_sub wo_sub b z⟩
  refine q _ H1 (o1.set wo_not (k0.rp _ _ r1)) ?_
  rw [av_set wo_not]
  exact (keep_same s1).trans k0
theorem some_lt {α : Type} {l : List α} {i : Nat} {x : α} (h : l[i]? = some x) : i < l.length := (List.getElem?_eq_some_iff.mp h).1
theorem s_own {i : Nat} {e' : E} (h : PS X st (tAsg (tF c X.K M e') (gName i))) : PS X st (tS c wf X.K M (i :: wo M i) (.own i e')) := ps_imp h fun Dn σ H ⟨O, G, ρ, f, o, ee, q⟩ => by
  rw [xs] at ee
  obtain ⟨d, e1, ee⟩ := bind_ok ee
  cases d with
  | lst ds =>
    dsimp only at ee
    split at ee
    · rename_i hh
      cases ee
      refine ⟨O, ρ, ds, o.ok, e1, fun p vs H1 s1 hp hv r1 => ?_⟩
      have k0 : Keep (Av O M σ) (Av O (wo M i) σ) H H := ⟨fun _ _ h _ => h, fun b _ z => av_sub wo_sub b z⟩
      obtain ⟨g1, g2⟩ := (o.drop (M' := wo M i) wo_sub).take wo_not s1 hp hv (Keep.rpl ⟨fun _ _ h _ => h, fun b _ z => by
        rcases z with z | z
        · exact .inl (av_sub wo_sub b z)
        · exact .inr z⟩ _ _ r1) (some_lt hh)
      exact q _ H1 g1 (k0.trans g2)
    · exact nomatch ee
  | _ => exact nomatch ee
theorem get_own {K : PySem.W.Frag} {O : Addr → Prop} {ρ : Rho} {σ : L2.St} {H : Hp} {i : Nat} {ds : List D} (o : Ok K O M ρ σ H) (hi : i ∈ M) (h : get ρ i = .ok (.lst ds)) :
    i < ρ.length ∧ ∃ a vs, σ[i]? = some (some (.ref a)) ∧ H a = some (.lst vs) ∧ RpL K (Av O M σ) H ds vs := by
  unfold get at h
  split at h
  · rename_i d hd
    cases h
    obtain ⟨a, vs, es, e1, e2, ha, ho, r⟩ := o.own i _ hd hi
    cases e1
    exact ⟨some_lt hd, a, vs, e2, ha, r⟩
  · exact nomatch h
/-- x.append(e) -/
theorem s_app {i : Nat} {e' : E} (hi : i ∈ M) (h : PS X st (tDrop (tBM X.K "list" rAppend (tVar i) (tCons (tE c X.K M e') tNil)))) : PS X st (tS c wf X.K M M (.app i e')) := ps_imp h fun Dn σ H ⟨O, G, ρ, f, o, ee, q⟩ => by
  rw [xs] at ee
  obtain ⟨d, e1, ee⟩ := bind_ok ee
  obtain ⟨l, e2, ee⟩ := bind_ok ee
  cases l with
  | lst ds =>
    obtain ⟨hl, e3⟩ := ok_ite ee
    cases e3
    obtain ⟨hil, a, vs, hs, ha, r⟩ := get_own o.ok hi e2
    refine ⟨.ref a, hs, .inl ⟨rfl, vs, .inl (.inl ha)⟩, O, ρ, d, o.ok, e1, fun v H1 s1 r1 => ?_⟩
    refine ⟨a, vs, v, rfl, rfl, s1 _ _ ha, by rw [← r.length]; exact lim_lt hl, ?_⟩
    obtain ⟨g1, g2⟩ := (o.ext s1).mut (vs := vs) (ds := ds) hi hs ((same_rpl s1 r).append (RpL.cons r1 RpL.nil)) hil
    exact q _ _ g1 ((keep_same s1).trans g2)
  | _ => exact nomatch ee
/-- x.extend(e), e a new list -/
theorem s_ext {i : Nat} {e' : E} (hi : i ∈ M) (h : PS X st (tDrop (tBM X.K "list" rExtend (tVar i) (tCons (tF c X.K M e') tNil)))) : PS X st (tS c wf X.K M M (.ext i e')) := ps_imp h fun Dn σ H ⟨O, G, ρ, f, o, ee, q⟩ => by
  rw [xs] at ee
  obtain ⟨d, e1, ee⟩ := bind_ok ee
  obtain ⟨l, e2, ee⟩ := bind_ok ee
  cases l with
  | lst ds =>
    cases d with
    | lst es =>
      obtain ⟨hl, e3⟩ := ok_ite ee
      cases e3
      obtain ⟨hil, a, vs, hs, ha, r⟩ := get_own o.ok hi e2
      refine ⟨.ref a, hs, .inl ⟨rfl, vs, .inl (.inl ha)⟩, O, ρ, es, o.ok, e1, fun p ws H1 s1 hp hv r1 => ?_⟩
      have r1' : RpL X.K (Av O M σ) H1 es ws := Keep.rpl ⟨fun _ _ h _ => h, fun b _ z => .inl z⟩ _ _ r1
      refine ⟨a, p, vs, ws, rfl, rfl, s1 _ _ ha, hv, by rw [← r.length, ← r1.length]; exact Nat.le_of_lt (lim_lt hl), ?_⟩
      obtain ⟨g1, g2⟩ := (o.ext s1).mut (vs := vs) (ds := ds) hi hs ((same_rpl s1 r).append r1') hil
      exact q _ _ g1 ((keep_same s1).trans g2)
    | _ => exact nomatch ee
  | _ => exact nomatch ee
theorem ixN_lt {n : Nat} {k : Int} {j : Nat} (h : ixN n k = some j) : j < n := (ixN_seq h).2.1
/-- x[k] = e -/
theorem s_put {i : Nat} {k' e' : E} (hi : i ∈ M) (h : PS X st (tAsg (tE c X.K M e') (gSub (tVar i) (tW c X.K M k') rSetL))) : PS X st (tS c wf X.K M M (.put i k' e')) := ps_imp h fun Dn σ H ⟨O, G, ρ, f, o, ee, q⟩ => by
  rw [xs] at ee
  obtain ⟨d, e1, ee⟩ := bind_ok ee
  obtain ⟨z, e2, ee⟩ := bind_ok ee
  obtain ⟨l, e3, ee⟩ := bind_ok ee
  cases l with
  | lst ds =>
    cases z with
    | int n =>
      dsimp only at ee
      split at ee
      · rename_i es hes
        cases ee
        unfold setAt at hes
        cases hj : ixN ds.length n with
        | none => rw [hj] at hes; exact nomatch hes
        | some j =>
          rw [hj] at hes
          cases hes
          obtain ⟨hil, a, vs, hs, ha, r⟩ := get_own o.ok hi e3
          refine ⟨O, ρ, d, o.ok, e1, fun v H1 s1 r1 => ⟨.ref a, hs, O, ρ, _, o.ok.ext s1, e2, fun w H2 s2 r2 => ?_⟩⟩
          cases r2.int
          refine ⟨a, vs, n, j, rfl, rfl, (s1.trans s2) _ _ ha, by rw [← r.length]; exact hj, ?_⟩
          obtain ⟨g1, g2⟩ := (o.ext (s1.trans s2)).mut (vs := vs) (ds := ds) hi hs ((same_rpl (s1.trans s2) r).set j (same_rp s2 r1)) hil
          exact q _ _ g1 ((keep_same (s1.trans s2)).trans g2)
      · exact nomatch ee
    | _ => exact nomatch ee
  | _ => exact nomatch ee
/-- a, b, .. = e -/
theorem OkS.setAll {K : PySem.W.Frag} {O : Addr → Prop} {G H : Hp} {ρ ρ' : Rho} {σ : L2.St} {is : List Nat} {ds : List D} {vs : List V} (o : OkS K O G M ρ σ H) (hM : ∀ i ∈ is, i ∉ M) (r : RpL K (Av O M σ) H ds vs) (e : setAll is ds ρ = some ρ') :
    OkS K O G M ρ' (setS is vs σ) H ∧ Keep (Av O M σ) (Av O M (setS is vs σ)) H H := by
  obtain ⟨g1, g2, _⟩ := o.ok.setAll hM r e
  have key : ∀ (is : List Nat) (vs : List V) (σ : L2.St), (∀ i ∈ is, i ∉ M) → ∀ j ∈ M, (setS is vs σ)[j]? = σ[j]? := fun is => by
    induction is with
    | nil => intro vs σ _ j _; cases vs <;> rfl
    | cons i is ih =>
      intro vs σ h j hj
      cases vs with
      | nil => rfl
      | cons v vs =>
        show (setS is vs (σ.set i (some v)))[j]? = σ[j]?
        rw [ih vs _ (fun k hk => h k (List.mem_cons_of_mem _ hk)) j hj, List.getElem?_set_ne (fun z => h i List.mem_cons_self (by rw [z]; exact hj))]
  refine ⟨⟨g1, o.same, fun j hj a e => o.fresh j hj a (by rw [← key is vs σ hM j hj]; exact e)⟩, ?_⟩
  rw [g2]
  exact Keep.refl
theorem s_unp {is : List Nat} {e' : E} (hM : ∀ i ∈ is, i ∉ M) (h : PS X st (tAsg (tE c X.K M e') (fun v σ H Q => gTup X.K is.length (gsN is) v σ H Q ∨ gUnl X.K is.length (gsN is) v σ H Q))) : PS X st (tS c wf X.K M M (.unp is e')) := ps_imp h fun Dn σ H ⟨O, G, ρ, f, o, ee, q⟩ => by
  rw [xs] at ee
  obtain ⟨d, e1, ee⟩ := bind_ok ee
  refine ⟨O, ρ, d, o.ok, e1, fun v H1 s1 r1 => ?_⟩
  split at ee
  · rename_i ds hd
    split at ee
    · rename_i ρ' hρ
      cases ee
      have hl := setAll_len hρ
      cases d with
      | tup es =>
        cases hd
        rw [Rp] at r1
        obtain ⟨a, vs, rfl, t, r⟩ := r1
        obtain ⟨g1, g2⟩ := (o.ext s1).setAll hM r hρ
        exact .inl ⟨a, vs, rfl, t.sq, by rw [← r.length, hl], gsN_set is vs σ H1 _ (by rw [← r.length, hl]) (q _ H1 g1 ((keep_same s1).trans g2))⟩
      | lst es =>
        cases hd
        rw [Rp] at r1
        obtain ⟨a, vs, rfl, t, r⟩ := r1
        obtain ⟨g1, g2⟩ := (o.ext s1).setAll hM r hρ
        exact .inr ⟨a, vs, rfl, t.sq, by rw [← r.length, hl], gsN_set is vs σ H1 _ (by rw [← r.length, hl]) (q _ H1 g1 ((keep_same s1).trans g2))⟩
      | _ => exact nomatch hd
    · exact nomatch ee
  · exact nomatch ee
theorem pg_or {tg : Expr} {t t' : TG} (h : PG X tg t) (h' : PG X tg t') : PG X tg (fun v σ H Q => t v σ H Q ∨ t' v σ H Q) := ⟨fun pins s σ H v u Q I r w => by
  rcases w with w | w
  · exact h.run pins s σ H v u Q I r w
  · exact h'.run pins s σ H v u Q I r w⟩
/-- if -/
theorem s_if {e : Expr} {e' : E} {a b : List Stmt} {a' b' : List S} {pos : Pos} (hc : PT X e (tT c X.K M e')) (ha : PSs X a (tSs c wf X.K M M' a')) (hb : PSs X b (tSs c wf X.K M M' b')) : PS X (.If e a b pos) (tS c wf X.K M M' (.ife e' a' b')) := ps_imp (ps_if hc ha hb) fun Dn σ H ⟨O, G, ρ, f, o, ee, q⟩ => by
  rw [xs] at ee
  obtain ⟨d, e1, ee⟩ := bind_ok ee
  obtain ⟨v, e2, ee⟩ := bind_ok ee
  unfold rTruth at e2
  split at e2
  · rename_i b0 ht
    cases e2
    refine ⟨O, ρ, d, v, o.ok, e1, ht, fun H1 s1 => ?_⟩
    have q1 : Fin1 X.K O G M M' σ H1 Dn f := by
      cases f with
      | nx ρ2 => exact fun σ2 H2 o2 k2 => q σ2 H2 o2 ((keep_same s1).trans k2)
      | rt d => exact q
    cases v with
    | true => exact iteT ⟨O, G, ρ, f, o.ext s1, ee, q1⟩
    | false => exact iteF ⟨O, G, ρ, f, o.ext s1, ee, q1⟩
  · exact nomatch e2
/-- for -/
def forF (c : Cf) (wf : Nat) (tg : Tg) (body : List S) : D → Rho → R Fl := fun d ρ => match bindT tg d ρ with
  | some ρ' => xss c wf body ρ'
  | none => .bad
theorem s_for {tg iter : Expr} {body : List Stmt} {tg' : Tg} {k : Src} {ss : List E} {body' : List S} {pos : Pos} (hp : PassesOwn (model X.prog X.w) X.A X.env X.xe) (hc : X.calm = true) (hi : PI X tg iter (tI true c X.K M k ss)) (hg : PG X tg (tG X.K M tg'))
    (hb : PSs X body (tSs c wf X.K M M body')) (hs : ∀ x, foldedSetIterable iter X.env x = pure x) (hsl : ∀ i ∈ slots tg', i ∉ M) : PS X (.For tg iter body [] pos) (tS c wf X.K M M (.for_ tg' k ss body')) :=
  ps_imp (ps_for hp hc hi hg hb hs) fun Dn σ H ⟨O, G, ρ, f, o, ee, q⟩ => by
  rw [xs] at ee
  obtain ⟨ds, e1, ee⟩ := bind_ok ee
  obtain ⟨its, e2, ee⟩ := bind_ok ee
  have ee' : forGo (forF c wf tg' body') its ρ = .ok f := ee
  clear ee
  refine ⟨O, ρ, ds, its, o.ok, e1, e2, fun J H1 s1 wk => ?_⟩
  refine ⟨fun i m σ2 H2 => m = its.length - i ∧ i ≤ its.length ∧ ∃ ρ2, OkS X.K O G M ρ2 σ2 H2 ∧ Keep (Av O M σ) (Av O M σ2) H1 H2 ∧ forGo (forF c wf tg' body') (its.drop i) ρ2 = .ok f,
    ⟨its.length, rfl, Nat.zero_le _, ρ, o.ext s1, Keep.refl, ee'⟩, ?_⟩
  rintro i m σ2 H2 ⟨rfl, hi, ρ2, o2, k2, eg⟩
  by_cases hlt : i < its.length
  · have hd := List.getElem?_eq_getElem hlt
    refine .inr ⟨wk.go _ H2 i k2 hlt, fun σ3 H3 => ∃ ρ3, OkS X.K O G M ρ3 σ3 H3 ∧ Keep (Av O M σ) (Av O M σ3) H1 H3 ∧ forGo (forF c wf tg' body') (its.drop (i + 1)) ρ3 = .ok f,
      fun σ3 H3 hN => ⟨its.length - (i + 1), by omega, rfl, hlt, hN⟩, fun x H3 hy => ?_⟩
    obtain ⟨s3, rx⟩ := wk.yld _ H2 i x H3 _ k2 o2.ok.dom hd hy
    rw [List.drop_eq_getElem_cons hlt, forGo] at eg
    obtain ⟨z, f1, eg⟩ := bind_ok eg
    unfold forF at f1
    split at f1
    · rename_i ρ' hbn
      have o3 := o2.ext s3
      refine ⟨O, ρ2, its[i], ρ', o3.ok, rx, hbn, fun σ' o' av' w' => ?_⟩
      have oS : OkS X.K O G M ρ' σ' H3 := by
        refine ⟨o', o3.same, fun j hj a e => ?_⟩
        have ha : Av O M σ' a := .inr ⟨j, hj, e⟩
        rw [av'] at ha
        rcases ha with ha | ⟨j2, hj2, e2⟩
        · obtain ⟨d', hd'⟩ := o'.slot e
          obtain ⟨a', _, _, _, g2, _, g4, _⟩ := o'.own j d' hd' hj
          rw [e] at g2
          cases g2
          exact absurd ha g4
        · exact o2.fresh j2 hj2 a e2
      refine ⟨O, G, ρ', z, oS, f1, ?_⟩
      have k3 : Keep (Av O M σ) (Av O M σ') H1 H3 := by
        rw [av']
        exact k2.trans (keep_same s3)
      cases z with
      | nx ρ4 => exact fun σ4 H4 o4 k4 => ⟨ρ4, o4, k3.trans k4, eg⟩
      | rt d =>
        cases eg
        exact q
    · exact nomatch f1
  · have ei : i = its.length := by omega
    subst ei
    refine .inl ⟨wk.stop _ H2 k2, ?_⟩
    rw [List.drop_length, forGo] at eg
    cases eg
    exact q _ H2 o2 ((keep_same s1).trans k2)
/-! a list of lists that grows at its end -/
def Oab (O : Addr → Prop) (a b : Addr) : Addr → Prop := fun x => O x ∨ x = a ∨ x = b
theorem Ok.change {K : PySem.W.Frag} {O1 O2 : Addr → Prop} {ρ : Rho} {σ : L2.St} {H H' : Hp} (h : Ok K O1 M ρ σ H) (k : Keep (Av O1 M σ) (Av O2 M σ) H H') (h0 : ∀ b, O2 b → H' b ≠ none) (hm : ∀ j ∈ M, ∀ x, σ[j]? = some (some (.ref x)) → H' x = H x ∧ ¬ O2 x) : Ok K O2 M ρ σ H' := by
  refine ⟨h0, h.len, h.non, fun j d e n => ?_, fun j d e m => ?_, h.inj⟩
  · obtain ⟨v, e2, r⟩ := h.val j d e n
    exact ⟨v, e2, k.rp _ _ r⟩
  · obtain ⟨a, vs, ds, e1, e2, ha, _, r⟩ := h.own j d e m
    obtain ⟨g1, g2⟩ := hm j m a e2
    exact ⟨a, vs, ds, e1, e2, by rw [g1]; exact ha, g2, k.rpl _ _ r⟩
theorem set_same {σ : L2.St} {i : Nat} {v : V} (e : σ[i]? = some (some v)) : σ.set i (some v) = σ := by
  apply List.ext_getElem?
  intro j
  by_cases hij : i = j
  · subst hij
    rw [List.getElem?_set_self (some_lt e), e]
  · rw [List.getElem?_set_ne hij]
theorem Ok.reslot {K : PySem.W.Frag} {O : Addr → Prop} {ρ : Rho} {σ : L2.St} {H : Hp} {i : Nat} {d : D} {v : V} (h : Ok K O M ρ σ H) (hi : i ∉ M) (e : σ[i]? = some (some v)) (r : Rp K (Av O M σ) H d v) : Ok K O M (ρ.set i (some d)) σ H := by
  have := h.set hi r
  rw [set_same e] at this
  exact this
structure NI (K : PySem.W.Frag) (O : Addr → Prop) (G : Hp) (M : List Nat) (i : Nat) (ρ : Rho) (dn cu : List D) (σ : L2.St) (H : Hp) (a b : Addr) : Prop where
  ok : Ok K (Oab O a b) M ρ σ H
  sl : σ[i]? = some (some (.ref a))
  ha : ∃ vs, H a = some (.lst (vs ++ [.ref b])) ∧ RpL K (Av (Oab O a b) M σ) H dn vs
  hb : ∃ ws, H b = some (.lst ws) ∧ RpL K (Av (Oab O a b) M σ) H cu ws
  ab : a ≠ b
  ga : G a = none
  gb : G b = none
  na : ¬ O a
  nb : ¬ O b
  same : Same G H
  fresh : ∀ j ∈ M, ∀ x, σ[j]? = some (some (.ref x)) → G x = none
section
variable {K : PySem.W.Frag} {O : Addr → Prop} {G : Hp} {i : Nat} {ρ : Rho} {dn cu : List D} {σ : L2.St} {H : Hp} {a b : Addr}
theorem NI.away (h : NI K O G M i ρ dn cu σ H a b) : ∀ j ∈ M, ∀ x, σ[j]? = some (some (.ref x)) → x ≠ a ∧ x ≠ b ∧ ¬ O x := fun j hj x e => by
  obtain ⟨d, hd⟩ := h.ok.slot e
  obtain ⟨a', _, _, _, e2, _, ho, _⟩ := h.ok.own j d hd hj
  rw [e] at e2
  cases e2
  exact ⟨fun z => ho (.inr (.inl z)), fun z => ho (.inr (.inr z)), fun z => ho (.inl z)⟩
theorem NI.nava (h : NI K O G M i ρ dn cu σ H a b) : ¬ Av O M σ a := fun z => by
  rcases z with z | ⟨j, hj, e⟩
  · exact h.na z
  · exact (h.away j hj a e).1 rfl
theorem NI.navb (h : NI K O G M i ρ dn cu σ H a b) : ¬ Av O M σ b := fun z => by
  rcases z with z | ⟨j, hj, e⟩
  · exact h.nb z
  · exact (h.away j hj b e).2.1 rfl
theorem NI.ext {H' : Hp} (h : NI K O G M i ρ dn cu σ H a b) (s : Same H H') : NI K O G M i ρ dn cu σ H' a b := by
  obtain ⟨vs, h1, h2⟩ := h.ha
  obtain ⟨ws, h3, h4⟩ := h.hb
  exact ⟨h.ok.ext s, h.sl, ⟨vs, s _ _ h1, same_rpl s h2⟩, ⟨ws, s _ _ h3, same_rpl s h4⟩, h.ab, h.ga, h.gb, h.na, h.nb, h.same.trans s, h.fresh⟩
/-- one more in the list under way -/
theorem NI.more {d : D} {v : V} (h : NI K O G M i ρ dn cu σ H a b) (r : Rp K (Av (Oab O a b) M σ) H d v) : ∀ ws, H b = some (.lst ws) → NI K O G M i ρ dn (cu ++ [d]) σ (upd H b (.lst (ws ++ [v]))) a b ∧ Keep (Av (Oab O a b) M σ) (Av (Oab O a b) M σ) H (upd H b (.lst (ws ++ [v]))) := fun ws hw => by
  have kp : Keep (Av (Oab O a b) M σ) (Av (Oab O a b) M σ) H (upd H b (.lst (ws ++ [v]))) := ⟨fun x o hx n => by
    rw [upd_ne (fun z => n.1 (.inl (.inr (.inr z))))]
    exact hx, fun _ _ z => z⟩
  obtain ⟨vs, h1, h2⟩ := h.ha
  obtain ⟨ws', h3, h4⟩ := h.hb
  rw [hw] at h3
  cases h3
  refine ⟨⟨h.ok.change kp (fun x hx => ?_) (fun j hj x e => ?_), h.sl, ⟨vs, by rw [upd_ne h.ab]; exact h1, kp.rpl _ _ h2⟩, ⟨_, upd_same, (kp.rpl _ _ h4).append (RpL.cons (kp.rp _ _ r) RpL.nil)⟩, h.ab, h.ga, h.gb, h.na, h.nb, fun x o hx => ?_, h.fresh⟩, kp⟩
  · by_cases q : x = b
    · rw [q, upd_same]
      exact fun z => nomatch z
    · rw [upd_ne q]
      exact h.ok.o0 x hx
  · obtain ⟨g1, g2, g3⟩ := h.away j hj x e
    refine ⟨upd_ne g2, fun z => ?_⟩
    rcases z with z | z | z
    · exact g3 z
    · exact g1 z
    · exact g2 z
  · rw [upd_ne (fun z => by rw [z, h.gb] at hx; exact nomatch hx)]
    exact h.same x o hx
/-- a new list is begun -/
theorem NI.next {b' : Addr} (h : NI K O G M i ρ dn cu σ H a b) (hb' : H b' = none) : ∀ vs, H a = some (.lst vs) → NI K O G M i ρ (dn ++ [.lst cu]) [] σ (upd (upd H b' (.lst [])) a (.lst (vs ++ [.ref b']))) a b' ∧ Keep (Av (Oab O a b) M σ) (Av (Oab O a b') M σ) H (upd (upd H b' (.lst [])) a (.lst (vs ++ [.ref b']))) := fun vs hv => by
  obtain ⟨us, h1, h2⟩ := h.ha
  obtain ⟨ws, h3, h4⟩ := h.hb
  rw [hv] at h1
  cases h1
  have hab' : a ≠ b' := fun z => by rw [← z, hv] at hb'; exact nomatch hb'
  have hbb' : b ≠ b' := fun z => by rw [← z, h3] at hb'; exact nomatch hb'
  have kp : Keep (Av (Oab O a b) M σ) (Av (Oab O a b') M σ) H (upd (upd H b' (.lst [])) a (.lst (us ++ [.ref b] ++ [.ref b']))) := ⟨fun x o hx n => by
    rw [upd_ne (fun z => n.1 (.inl (.inr (.inl z)))), upd_ne (fun z => by rw [z, hb'] at hx; exact nomatch hx)]
    exact hx, fun x hx z => by
    rcases z with z | z
    · rcases z with z | z | z
      · exact .inl (.inl z)
      · exact .inl (.inr (.inl z))
      · exact absurd (by rw [z]; exact hb') (liv_ne hx)
    · exact .inr z⟩
  have hbn : ¬ Av (Oab O a b') M σ b := fun z => by
    rcases z with z | ⟨j, hj, e⟩
    · rcases z with z | z | z
      · exact h.nb z
      · exact h.ab z.symm
      · exact hbb' z
    · exact (h.away j hj b e).2.1 rfl
  have hbH : upd (upd H b' (.lst [])) a (.lst (us ++ [.ref b] ++ [.ref b'])) b = some (.lst ws) := by
    rw [upd_ne (fun z => h.ab z.symm), upd_ne hbb']
    exact h3
  refine ⟨⟨h.ok.change kp (fun x hx => ?_) (fun j hj x e => ?_), h.sl, ⟨us ++ [.ref b], upd_same, (kp.rpl _ _ h2).append (RpL.cons (rp_lst hbH hbn (kp.rpl _ _ h4)) RpL.nil)⟩, ⟨[], by rw [upd_ne (fun z => hab' z.symm), upd_same], RpL.nil⟩, hab', h.ga, Same.free h.same hb', h.na, fun z => h.ok.o0 b' (.inl z) hb', fun x o hx => ?_, h.fresh⟩, kp⟩
  · by_cases q : x = a
    · rw [q, upd_same]
      exact fun z => nomatch z
    · rw [upd_ne q]
      by_cases q2 : x = b'
      · rw [q2, upd_same]
        exact fun z => nomatch z
      · rw [upd_ne q2]
        rcases hx with hx | hx | hx
        · exact h.ok.o0 x (.inl hx)
        · exact absurd hx q
        · exact absurd hx q2
  · obtain ⟨g1, g2, g3⟩ := h.away j hj x e
    have hne : x ≠ b' := fun z => by
      obtain ⟨d, hd⟩ := h.ok.slot e
      obtain ⟨a', _, _, _, e2, ha', _, _⟩ := h.ok.own j d hd hj
      rw [e] at e2
      cases e2
      rw [z, hb'] at ha'
      exact nomatch ha'
    refine ⟨by rw [upd_ne g1, upd_ne hne], fun z => ?_⟩
    rcases z with z | z | z
    · exact g3 z
    · exact g1 z
    · exact hne z
  · rw [upd_ne (fun z => by rw [z, h.ga] at hx; exact nomatch hx), upd_ne (fun z => by rw [z] at hx; rw [Same.free h.same hb'] at hx; exact nomatch hx)]
    exact h.same x o hx
/-- the end: it is a plain list -/
theorem NI.close (h : NI K O G M i ρ dn cu σ H a b) (hi : i ∉ M) : OkS K O G M (ρ.set i (some (.lst (dn ++ [.lst cu])))) σ H := by
  obtain ⟨vs, h1, h2⟩ := h.ha
  obtain ⟨ws, h3, h4⟩ := h.hb
  have kp : Keep (Av (Oab O a b) M σ) (Av O M σ) H H := ⟨fun _ _ z _ => z, fun x _ z => by
    rcases z with z | z
    · exact .inl (.inl z)
    · exact .inr z⟩
  have o := h.ok.change kp (fun x hx => h.ok.o0 x (.inl hx)) (fun j hj x e => ⟨rfl, (h.away j hj x e).2.2⟩)
  refine ⟨o.reslot hi h.sl ?_, h.same, h.fresh⟩
  exact rp_lst h1 h.nava ((kp.rpl _ _ h2).append (RpL.cons (rp_lst h3 h.navb (kp.rpl _ _ h4)) RpL.nil))
/-- the begin -/
theorem NI.start {ρ : Rho} {σ : L2.St} {H : Hp} (o : OkS K O G M ρ σ H) (hi : i ∉ M) (hb : H b = none) (ha : upd H b (.lst []) a = none) (hl : i < ρ.length) : NI K O G M i (ρ.set i (some (.ref 0))) [] [] (σ.set i (some (.ref a))) (upd (upd H b (.lst [])) a (.lst [.ref b])) a b ∧ Same H (upd (upd H b (.lst [])) a (.lst [.ref b])) := by
  have hab : a ≠ b := fun z => by rw [z, upd_same] at ha; exact nomatch ha
  have haH : H a = none := by rw [upd_ne hab] at ha; exact ha
  have s1 : Same H (upd (upd H b (.lst [])) a (.lst [.ref b])) := (same_new hb).trans (same_new ha)
  have kp : Keep (Av O M σ) (Av (Oab O a b) M σ) H (upd (upd H b (.lst [])) a (.lst [.ref b])) := ⟨fun x o' hx _ => s1 x o' hx, fun x hx z => by
    rcases z with z | z
    · rcases z with z | z | z
      · exact .inl z
      · exact absurd (by rw [z]; exact haH) (liv_ne hx)
      · exact absurd (by rw [z]; exact hb) (liv_ne hx)
    · exact .inr z⟩
  have aw : ∀ j ∈ M, ∀ x, σ[j]? = some (some (.ref x)) → x ≠ a ∧ x ≠ b ∧ ¬ O x := fun j hj x e => by
    obtain ⟨d, hd⟩ := o.ok.slot e
    obtain ⟨a', _, _, _, e2, ha', ho, _⟩ := o.ok.own j d hd hj
    rw [e] at e2
    cases e2
    refine ⟨fun z => ?_, fun z => ?_, ho⟩
    · rw [z, haH] at ha'
      exact nomatch ha'
    · rw [z, hb] at ha'
      exact nomatch ha'
  have o1 : Ok K (Oab O a b) M ρ σ (upd (upd H b (.lst [])) a (.lst [.ref b])) := o.ok.change kp (fun x hx => by
    rcases hx with hx | hx | hx
    · exact same_dom s1 (o.ok.o0 x hx)
    · rw [hx, upd_same]
      exact fun z => nomatch z
    · rw [hx, upd_ne (fun z => hab z.symm), upd_same]
      exact fun z => nomatch z) (fun j hj x e => by
    obtain ⟨g1, g2, g3⟩ := aw j hj x e
    exact ⟨by rw [upd_ne g1, upd_ne g2], fun z => by
      rcases z with z | z | z
      · exact g3 z
      · exact g1 z
      · exact g2 z⟩)
  have hr : Rp K (Av (Oab O a b) M σ) (upd (upd H b (.lst [])) a (.lst [.ref b])) (.ref 0) (.ref a) := by
    rw [Rp]
    exact ⟨a, rfl⟩
  refine ⟨⟨o1.set hi hr, List.getElem?_set_self (by rw [o.ok.len]; exact hl), ⟨[], upd_same, RpL.nil⟩, ⟨[], by rw [upd_ne (fun z => hab z.symm), upd_same], RpL.nil⟩, hab, Same.free o.same haH, Same.free o.same hb, fun z => o.ok.o0 a z haH, fun z => o.ok.o0 b z hb, o.same.trans s1, fun j hj x e => ?_⟩, s1⟩
  rw [List.getElem?_set_ne (fun z => hi (by rw [z]; exact hj))] at e
  exact o.fresh j hj x e
end
def tNA (K : PySem.W.Frag) (i : Nat) : TS := tDrop (tBM K "list" rAppend (tVar i) (tCons (tLst tNil) tNil))
def tNB (c : Cf) (K : PySem.W.Frag) (M : List Nat) (i : Nat) (e : E) : TS := tDrop (tBM K "list" rAppend (tOp (rIxL K) (tVar i) (tC (.int (-1)))) (tCons (tE c K M e) tNil))
theorem s_nst {st1 st2 : Stmt} {rest : List Stmt} {i : Nat} {tg : Tg} {k : Src} {ss : List E} {cond e : E} {ss' : List S} (hsl : i ∉ slots tg) (hslM : ∀ j ∈ slots tg, j ∉ wo M i)
    (h1 : PS X st1 (tAsg (tLst (tCons (tLst tNil) tNil)) (gName i))) (h2 : PS X st2 (tFor (tI true c X.K (wo M i) k ss) (tG X.K (wo M i) tg) (tIfS (tT c X.K (wo M i) cond) (tNA X.K i) (tNB c X.K (wo M i) i e)))) (h3 : PSs X rest (tSs c wf X.K (wo M i) M2 ss')) :
    PSs X (st1 :: st2 :: rest) (tSs c wf X.K M M2 (.nst i tg k ss cond e :: ss')) := pss_imp (pss_cons h1 (pss_cons h2 h3)) fun Dn σ H ⟨O, G, ρ, f, o0, ee, q⟩ => by
  rw [xss, xs] at ee
  obtain ⟨z0, ee0, ee1⟩ := bind_ok ee
  cases hρ : ρ[i]? with
  | none => rw [hρ] at ee0; exact nomatch ee0
  | some slot =>
  rw [hρ] at ee0
  dsimp only at ee0
  obtain ⟨ys, e1, ee0⟩ := bind_ok ee0
  obtain ⟨its, e2, ee0⟩ := bind_ok ee0
  obtain ⟨zf, e3, ee0⟩ := bind_ok ee0
  cases ee0
  dsimp only at ee1
  have o := o0.drop (M' := wo M i) wo_sub
  have hi : i ∉ wo M i := wo_not
  refine ⟨Nat.zero_le _, fun b hb => ⟨(by show 1 ≤ sizeLine; decide), fun a ha => ?_⟩⟩
  obtain ⟨ni0, s0⟩ := NI.start (a := a) (b := b) o hi hb ha (some_lt hρ)
  have haH : H a = none := by
    by_cases hab : a = b
    · rw [hab]; exact hb
    · rw [upd_ne hab] at ha; exact ha
  generalize hσ1 : σ.set i (some (.ref a)) = σ1 at ni0
  have hσM : ∀ j ∈ wo M i, σ1[j]? = σ[j]? := fun j hj => by
    rw [← hσ1, List.getElem?_set_ne (fun z => by subst z; exact hi hj)]
  unfold gName
  dsimp only
  rw [hσ1]
  refine ⟨Oab O a b, _, ys, its, ni0.ok, e1, e2, fun J H2 s2 wk => ?_⟩
  refine ⟨fun idx m σ2 H3 => m = its.length - idx ∧ idx ≤ its.length ∧ ∃ ρ2 dn cu b2, NI X.K O G (wo M i) i ρ2 dn cu σ2 H3 a b2 ∧ Keep (Av (Oab O a b) (wo M i) σ1) (Av (Oab O a b2) (wo M i) σ2) H2 H3 ∧ nstGo (nstF c tg cond e) (its.drop idx) dn cu ρ2 = .ok zf,
    ⟨its.length, rfl, Nat.zero_le _, _, [], [], b, ni0.ext s2, Keep.refl, e3⟩, ?_⟩
  rintro idx m σ2 H3 ⟨rfl, hidx, ρ2, dn, cu, b2, ni, kk, eg⟩
  by_cases hlt : idx < its.length
  · have hd := List.getElem?_eq_getElem hlt
    refine .inr ⟨wk.go _ H3 idx kk hlt, fun σ3 H4 => ∃ ρ3 dn cu b3, NI X.K O G (wo M i) i ρ3 dn cu σ3 H4 a b3 ∧ Keep (Av (Oab O a b) (wo M i) σ1) (Av (Oab O a b3) (wo M i) σ3) H2 H4 ∧ nstGo (nstF c tg cond e) (its.drop (idx + 1)) dn cu ρ3 = .ok zf,
      fun σ3 H4 hN => ⟨its.length - (idx + 1), by omega, rfl, hlt, hN⟩, fun x H4 hy => ?_⟩
    obtain ⟨s3, rx⟩ := wk.yld _ H3 idx x H4 _ kk ni.ok.dom hd hy
    rw [List.drop_eq_getElem_cons hlt, nstGo] at eg
    obtain ⟨z, f1, eg⟩ := bind_ok eg
    unfold nstF at f1
    split at f1
    · rename_i ρ' hbn
      have ni3 := ni.ext s3
      refine ⟨Oab O a b2, ρ2, its[idx], ρ', ni3.ok, rx, hbn, fun σ' o' av' w' => ?_⟩
      have hsl' : σ'[i]? = some (some (.ref a)) := by
        have := congrArg (fun l : L2.St => l[i]?) (w' (slots tg) fun _ h => h)
        rw [wipe_get, wipe_get, if_neg (fun z => hsl z.1), if_neg (fun z => hsl z.1)] at this
        rw [this]
        exact ni.sl
      have ni4 : NI X.K O G (wo M i) i ρ' dn cu σ' H4 a b2 := by
        obtain ⟨vs, g1, g2⟩ := ni3.ha
        obtain ⟨ws, g3, g4⟩ := ni3.hb
        refine ⟨o', hsl', ⟨vs, g1, by rw [av']; exact g2⟩, ⟨ws, g3, by rw [av']; exact g4⟩, ni.ab, ni.ga, ni.gb, ni.na, ni.nb, ni3.same, fun j hj y ey => ?_⟩
        have hay : Av (Oab O a b2) (wo M i) σ' y := .inr ⟨j, hj, ey⟩
        rw [av'] at hay
        rcases hay with hay | ⟨j2, hj2, e2'⟩
        · obtain ⟨d', hd'⟩ := o'.slot ey
          obtain ⟨a', _, _, _, g5, _, g6, _⟩ := o'.own j d' hd' hj
          rw [ey] at g5
          cases g5
          exact absurd hay g6
        · exact ni.fresh j2 hj2 y e2'
      have k4 : Keep (Av (Oab O a b) (wo M i) σ1) (Av (Oab O a b2) (wo M i) σ') H2 H4 := by
        rw [av']
        exact kk.trans (keep_same s3)
      obtain ⟨t, t1, f1⟩ := bind_ok f1
      obtain ⟨bb, t2, f1⟩ := bind_ok f1
      unfold rTruth at t2
      split at t2
      · rename_i b0 ht
        cases t2
        refine ⟨Oab O a b2, ρ', t, bb, ni4.ok, t1, ht, fun H5 s5 => ?_⟩
        have ni5 := ni4.ext s5
        have k5 := k4.trans (keep_same (O := Av (Oab O a b2) (wo M i) σ') s5)
        cases bb with
        | true =>
          cases f1
          dsimp only at eg
          obtain ⟨hl, eg⟩ : dn.length + 1 < LIM ∧ nstGo (nstF c tg cond e) (its.drop (idx + 1)) (dn ++ [.lst cu]) [] ρ' = .ok zf := by
            by_cases hl : dn.length + 1 < LIM
            · rw [if_pos hl] at eg
              exact ⟨hl, eg⟩
            · rw [if_neg hl] at eg
              exact nomatch eg
          obtain ⟨vs, g1, g2⟩ := ni5.ha
          refine iteT ⟨.ref a, hsl', .inl ⟨rfl, _, .inl (.inl g1)⟩, Nat.zero_le _, fun b3 hb3 => ?_⟩
          have hab3 : a ≠ b3 := fun z => by rw [← z, g1] at hb3; exact nomatch hb3
          refine ⟨a, vs ++ [.ref b2], .ref b3, rfl, rfl, by rw [upd_ne hab3]; exact g1, ?_, ?_⟩
          · rw [List.length_append, List.length_cons, List.length_nil, ← g2.length]
            exact lim_lt hl
          · obtain ⟨n1, n2⟩ := ni5.next hb3 _ g1
            exact ⟨ρ', _, _, b3, n1, k5.trans n2, eg⟩
        | false =>
          obtain ⟨x', t3, f1⟩ := bind_ok f1
          cases f1
          dsimp only at eg
          obtain ⟨hl, eg⟩ : cu.length < LIM ∧ nstGo (nstF c tg cond e) (its.drop (idx + 1)) dn (cu ++ [x']) ρ' = .ok zf := by
            by_cases hl : cu.length < LIM
            · rw [if_pos hl] at eg
              exact ⟨hl, eg⟩
            · rw [if_neg hl] at eg
              exact nomatch eg
          obtain ⟨vs, g1, g2⟩ := ni5.ha
          obtain ⟨ws, g3, g4⟩ := ni5.hb
          refine iteF ⟨.ref a, hsl', a, _, -1, .ref b2, rfl, rfl, .inl (.inl g1), atI_last _ _, .inl ⟨rfl, _, .inl (.inl g3)⟩, Oab O a b2, ρ', x', ni5.ok, t3, fun v H6 s6 r6 => ?_⟩
          refine ⟨b2, ws, v, rfl, rfl, s6 _ _ g3, by rw [← g4.length]; exact lim_lt hl, ?_⟩
          obtain ⟨n1, n2⟩ := (ni5.ext s6).more r6 ws (s6 _ _ g3)
          exact ⟨ρ', _, _, b2, n1, (k5.trans (keep_same (O := Av (Oab O a b2) (wo M i) σ') s6)).trans n2, eg⟩
      · exact nomatch t2
    · exact nomatch f1
  · have ei : idx = its.length := by omega
    subst ei
    refine .inl ⟨wk.stop _ H3 kk, ?_⟩
    rw [List.drop_length, nstGo] at eg
    cases eg
    refine ⟨O, G, _, f, ni.close hi, ee1, ?_⟩
    have kf : Keep (Av O M σ) (Av O (wo M i) σ2) H H3 := by
      have sH : Same H H2 := s0.trans s2
      refine ⟨fun x o' hx n => kk.heap x o' (sH x o' hx) ⟨fun z => ?_, n.2⟩, fun x hx z => ?_⟩
      · rcases z with z | ⟨j, hj, e'⟩
        · rcases z with z | z | z
          · exact n.1 (.inl z)
          · rw [z, haH] at hx
            exact nomatch hx
          · rw [z, hb] at hx
            exact nomatch hx
        · rw [hσM j hj] at e'
          exact n.1 (.inr ⟨j, wo_sub j hj, e'⟩)
      · have z2 : Av (Oab O a b2) (wo M i) σ2 x := by
          rcases z with z | z
          · exact .inl (.inl z)
          · exact .inr z
        rcases kk.own x (liv_same sH hx) z2 with y | ⟨j, hj, e'⟩
        · rcases y with y | y | y
          · exact .inl y
          · exact absurd (by rw [y]; exact haH) (liv_ne hx)
          · exact absurd (by rw [y]; exact hb) (liv_ne hx)
        · rw [hσM j hj] at e'
          exact .inr ⟨j, wo_sub j hj, e'⟩
    cases f with
    | nx ρ3 => exact fun σ3 H4 o3 k3 => q σ3 H4 o3 (kf.trans k3)
    | rt d => exact q
/-- while -/
theorem s_whl {e : Expr} {e' : E} {body : List Stmt} {body' : List S} {pos : Pos} (hp : PassesOwn (model X.prog X.w) X.A X.env X.xe) (hc : PT X e (tT c X.K M e')) (hb : PSs X body (tSs c wf X.K M M body')) : PS X (.While e body [] pos) (tS c wf X.K M M (.whl e' body')) :=
  ps_imp (ps_while hp hc hb) fun Dn σ H ⟨O, G, ρ, f, o, ee, q⟩ => by
  rw [xs] at ee
  refine ⟨fun m σ2 H2 => ∃ ρ2, OkS X.K O G M ρ2 σ2 H2 ∧ Keep (Av O M σ) (Av O M σ2) H H2 ∧ whlGo (fun ρ => (ev c e' ρ).bind rTruth) (fun ρ => xss c wf body' ρ) m ρ2 = .ok f, ⟨wf, ρ, o, Keep.refl, ee⟩, ?_⟩
  rintro m σ2 H2 ⟨ρ2, o2, k2, eg⟩
  cases m with
  | zero => exact nomatch eg
  | succ m =>
    rw [whlGo] at eg
    obtain ⟨b, g1, eg⟩ := bind_ok eg
    obtain ⟨d, g2, g1⟩ := bind_ok g1
    unfold rTruth at g1
    split at g1
    · rename_i b0 ht
      cases g1
      refine ⟨O, ρ2, d, b, o2.ok, g2, ht, fun H3 s3 => ?_⟩
      cases b with
      | true =>
        obtain ⟨z, h1, eg⟩ := bind_ok eg
        refine iteT ⟨fun σ4 H4 => ∃ ρ4, OkS X.K O G M ρ4 σ4 H4 ∧ Keep (Av O M σ) (Av O M σ4) H H4 ∧ whlGo (fun ρ => (ev c e' ρ).bind rTruth) (fun ρ => xss c wf body' ρ) m ρ4 = .ok f, fun σ4 H4 hN => ⟨m, Nat.lt_succ_self m, hN⟩, O, G, ρ2, z, o2.ext s3, h1, ?_⟩
        cases z with
        | nx ρ4 => exact fun σ4 H4 o4 k4 => ⟨ρ4, o4, (k2.trans (keep_same s3)).trans k4, eg⟩
        | rt d =>
          cases eg
          exact q
      | false =>
        cases eg
        exact iteF (q _ H3 (o2.ext s3) (k2.trans (keep_same s3)))
    · exact nomatch g1
end
end LC

set_option Elab.async false
set_option linter.all false
set_option maxRecDepth 100000
set_option maxHeartbeats 2000000
/-! LC: the checker of expressions -/
namespace LC
open PySem PySem.Spec PyProof.Rows L2

def isVis (sc : Scope) (x : Str) : Bool := match sc.names.lookup x with
  | some .local => true
  | some .cell => true
  | some .free => true
  | _ => false
def isLoc (sc : Scope) (x : Str) : Bool := match sc.names.lookup x with
  | some .local => true
  | some .cell => true
  | _ => false
def isGl (sc : Scope) (x : Str) : Bool := sc.names.lookup x == some .globalImplicit
def nmOk (x : Str) : Bool := !(x == ("__debug__" : Str)) && !(x == ("__classdict__" : Str)) && !(x == ("__name__" : Str))
/-- a bare name of an owned list -/
def wk (M : List Nat) : E → Bool
  | .var i => M.contains i
  | _ => false
def binOk : Operator → Bool
  | .Add | .Sub | .Mult | .FloorDiv | .Mod | .Pow => true
  | _ => false
def biName : Bi → Str
  | .len => "len"
  | .int => "int"
  | .str => "str"
  | .tuple => "tuple"
  | .list => "list"
  | .sum => "sum"
  | .max => "max"
  | .min => "min"
  | .abs => "abs"
  | .all => "all"
  | .sorted => "sorted"
def noSlice : Expr → Bool
  | .Slice _ _ _ _ => false
  | _ => true
def stpOk : Stp → Option Expr → Expr → Bool
  | .rev, none, .UnaryOp .USub (.Constant (.int 1) _ _) _ => true
  | .even, none, .Constant (.int 2) _ _ => true
  | .odd, some (.Constant (.int 1) _ _), .Constant (.int 2) _ _ => true
  | _, _, _ => false
def srcArgs : Src → Expr → Option (List Expr)
  | .seq, e => some [e]
  | .rng, .Call (.Name x _) args [] _ => if x == ("range" : Str) then some args else none
  | .enum, .Call (.Name x _) [a] [] _ => if x == ("enumerate" : Str) then some [a] else none
  | .zip, .Call (.Name x _) [a, b] [] _ => if x == ("zip" : Str) then some [a, b] else none
  | _, _ => none
def isTupE : Expr → Bool
  | .Tuple _ _ _ => true
  | _ => false
def srcOk (sc : Scope) (tg : Expr) : Src → Bool
  | .seq => true
  | .rng => isGl sc ("range" : Str)
  | .enum => isGl sc ("enumerate" : Str) && isTupE tg
  | .zip => isGl sc ("zip" : Str) && isTupE tg
def chkNames (N : List Str) (sc : Scope) (top : Bool) (M : List Nat) : List Expr → List Nat → Bool
  | [], [] => true
  | .Name x _ :: es, i :: is => N[i]? == some x && isLoc sc x && (top || sc.names.lookup x == some .local) && !M.contains i && chkNames N sc top M es is
  | _, _ => false
def chkTg (N : List Str) (sc : Scope) (top : Bool) (M : List Nat) (e : Expr) : Tg → Bool
  | .one i => chkNames N sc top M [e] [i]
  | .many is => match e with
    | .Tuple es _ _ => chkNames N sc top M es is
    | _ => false
def attrOk : Expr → Bool
  | .Call (.Name _ _) [] [] _ => false
  | _ => true
def plainT : Expr → Bool
  | .Name _ _ | .Call _ _ _ _ | .Subscript _ _ _ | .Constant _ _ _ => true
  | _ => false

mutual
def chkE (p : Pg) (N : List Str) (M : List Nat) : Scope → E → Expr → Bool
  | sc, .var i, e => match e with
    | .Name x _ => N[i]? == some x && isVis sc x && nmOk x
    | _ => false
  | sc, .glb y, e => match e with
    | .Name x _ => x == y && isGl sc x && nmOk x && (p.glb.lookup x).isSome
    | _ => false
  | _, .cst d, e => match e, d with
    | .Constant (.int i) _ _, .int j => i == j
    | .Constant (.bool a) _ _, .bl b => a == b
    | .Constant (.str a) _ _, .str b => a == b
    | .Constant .none _ _, .non => true
    | _, _ => false
  | sc, .bin o a' b', e => match e with
    | .BinOp a op b _ => op == o && binOk o && chkE p N M sc a' a && chkE p N M sc b' b
    | _ => false
  | sc, .neg a', e => match e with
    | .UnaryOp .USub a _ => chkE p N M sc a' a
    | _ => false
  | sc, .not a', e => match e with
    | .UnaryOp .Not a _ => chkE p N M sc a' a
    | _ => false
  | sc, .cmp o a' b', e => match e with
    | .Compare a [op] [b] _ => op == o && !behindInMarks op b && chkE p N M sc a' a && chkE p N M sc b' b
    | _ => false
  | sc, .chn o o2 a' b' f', e => match e with
    | .Compare a [op, op2] [b, f] _ => op == o && op2 == o2 && !behindInMarks op2 f && chkE p N M sc a' a && chkE p N M sc b' b && chkE p N M sc f' f
    | _ => false
  | sc, .and a b, e => match e with
    | .BoolOp .And [x, y] _ => chkE p N M sc a x && chkE p N M sc b y && !wk M b
    | .BoolOp .And [x, y, z] _ => chkE p N M sc a x && (match b with
      | .and b c => chkE p N M sc b y && chkE p N M sc c z && !wk M c
      | _ => false)
    | .BoolOp .And [x, y, z, u] _ => chkE p N M sc a x && (match b with
      | .and b (.and c d) => chkE p N M sc b y && chkE p N M sc c z && chkE p N M sc d u && !wk M d
      | _ => false)
    | _ => false
  | sc, .or a b, e => match e with
    | .BoolOp .Or [x, y] _ => chkE p N M sc a x && chkE p N M sc b y && !wk M b
    | .BoolOp .Or [x, y, z] _ => chkE p N M sc a x && (match b with
      | .or b c => chkE p N M sc b y && chkE p N M sc c z && !wk M c
      | _ => false)
    | .BoolOp .Or [x, y, z, u] _ => chkE p N M sc a x && (match b with
      | .or b (.or c d) => chkE p N M sc b y && chkE p N M sc c z && chkE p N M sc d u && !wk M d
      | _ => false)
    | _ => false
  | sc, .idx a' b', e => match e with
    | .Subscript a b _ => noSlice b && chkE p N M sc a' a && chkE p N M sc b' b
    | _ => false
  | sc, .cut a' bl lo' bh hi', e => match e with
    | .Subscript a (.Slice lo hi none _) _ => chkE p N M sc a' a && (match lo with
      | none => !bl
      | some f => bl && chkE p N M sc lo' f) && (match hi with
      | none => !bh
      | some f => bh && chkE p N M sc hi' f)
    | _ => false
  | sc, .stp k a', e => match e with
    | .Subscript a (.Slice lo none (some st) _) _ => stpOk k lo st && chkE p N M sc a' a
    | _ => false
  | sc, .tup es', e => match e with
    | .Tuple es _ _ => chkEs p N M true sc es' es
    | _ => false
  | sc, .lst es', e => match e with
    | .List es _ => chkEs p N M true sc es' es
    | _ => false
  | sc, .call f es', e => match e with
    | .Call (.Name x _) (a :: as) [] _ => x == f && isGl sc x && nmOk x && (p.fns.lookup f).isSome && chkEs p N M true sc es' (a :: as)
    | _ => false
  | sc, .bi b es', e => match e with
    | .Call (.Name x _) (a :: as) [] _ => x == biName b && isGl sc x && chkEs p N M false sc es' (a :: as)
    | _ => false
  | sc, .isi a' t, e => match e with
    | .Call (.Name x _) [a, .Name y _] [] _ => x == ("isinstance" : Str) && isGl sc x && y == (tyName t : Str) && isGl sc y && chkE p N M sc a' a
    | _ => false
  | sc, .lc own tg' k ss cond elt', e => match e with
    | .ListComp elt [⟨tg, iter, ifs, ia⟩] scope _ => ia == 0 && blkC N sc scope (own.map fun i => (N.getD i ("" : Str), i)) && own.all (fun i => !M.contains i) && (slots tg').all (fun i => own.contains i)
      && chkTg N (relS scope sc) false M tg tg' && srcOk sc tg k && (match srcArgs k iter with
        | some as => chkEs p N M false sc ss as
        | none => false)
      && (match ifs, cond with
        | [], .cst (.bl true) => true
        | [.UnaryOp .Not x _], .not a => plainT x && chkE p N M (relS scope sc) a x
        | [.Compare a [op] [b] _], .cmp o a' b' => op == o && !behindInMarks op b && chkE p N M (relS scope sc) a' a && chkE p N M (relS scope sc) b' b
        | _, _ => false)
      && chkE p N M (relS scope sc) elt' elt && !wk M elt'
    | _ => false
  | sc, .mth m o' es', e => match e with
    | .Call (.Attribute o nm apos) (a :: as) [] cpos => nm == mthName m && attrOk o && apos.endLine == cpos.line && decide (as.length < 9) && chkE p N M sc o' o && chkEs p N M false sc es' (a :: as)
    | _ => false
  | sc, .rpl o' x y, e => match e with
    | .Call (.Attribute o nm apos) [.Name x' _, .Name y' _] [] cpos => nm == ("replace" : Str) && attrOk o && apos.endLine == cpos.line && x' == x && y' == y && isGl sc x && isGl sc y && nmOk x && nmOk y && p.rps.contains (x, y) && chkE p N M sc o' o
    | _ => false
  | sc, .kin neg a' x, e => match e with
    | .Compare a [op] [.Name x' _] _ => op == (if neg = true then .NotIn else .In) && x' == x && isGl sc x && nmOk x && (p.dct.lookup x).isSome && chkE p N M sc a' a
    | _ => false
  | sc, .kget x a', e => match e with
    | .Subscript (.Name x' _) a _ => noSlice a && x' == x && isGl sc x && nmOk x && (p.dct.lookup x).isSome && chkE p N M sc a' a
    | _ => false
  | sc, .sst a', e => match e with
    | .Call (.Name f _) [.Call (.Name g _) [a] [] _] [] _ => f == ("sorted" : Str) && isGl sc f && g == ("set" : Str) && isGl sc g && chkE p N M sc a' a
    | _ => false
  | sc, .lss a', e => match e with
    | .Call (.Name f _) [.Call (.Name g _) [a] [] _] [] _ => f == ("len" : Str) && isGl sc f && g == ("set" : Str) && isGl sc g && chkE p N M sc a' a
    | _ => false
def chkEs (p : Pg) (N : List Str) (M : List Nat) (strong : Bool) : Scope → List E → List Expr → Bool
  | _, [], es => es.isEmpty
  | sc, e' :: es', es => match es with
    | e :: es => chkE p N M sc e' e && (!strong || !wk M e') && chkEs p N M strong sc es' es
    | [] => false
end
end LC

set_option Elab.async false
set_option linter.all false
set_option maxRecDepth 100000
set_option maxHeartbeats 4000000
/-! LC: the checker is right, expressions -/
namespace LC
open PySem PySem.Spec PyProof.Rows L2

def bltNames : List Str := ["len", "int", "str", "tuple", "list", "sum", "max", "min", "abs", "all", "sorted", "isinstance", "range", "enumerate", "zip", "bool", "set"]
def cfOf (p : Pg) (n : Nat) : Cf := ⟨p.glb, run p n, p.dct, runX p n⟩

/-- a dict of the top -/
def DctOk (K : PySem.W.Frag) (w : World) (mg : Str → Option Value) (x : Str) (kvs : List (Str × D)) : Prop := ∃ dd es m, mg x = some (.ref dd) ∧ KDict K w dd es m ∧ ∀ z, ∃ r, PySem.W.nsIn K dd z = some r ∧ DEnt K r (kvs.lookup z)
/-- two texts of the top, not the same object -/
def RpsOk (p : Pg) (mg : Str → Option Value) (x y : Str) : Prop := ∃ a b t u, mg x = some (.str a t) ∧ mg y = some (.str b u) ∧ t ≠ 0 ∧ u ≠ 0 ∧ t ≠ u ∧ p.glb.lookup x = some (.str a) ∧ p.glb.lookup y = some (.str b)
structure Cok (p : Pg) (n : Nat) (N : List Str) (sc : Scope) (X : Cx) : Prop where
  names : X.N = N
  nd : N.Nodup
  scope : X.env.scope = sc
  calm : X.calm = true
  room : Room n X.A
  glb : ∀ x d, p.glb.lookup x = some d → ∃ v u, X.mg x = some u ∧ RelV v u ∧ ∀ O H, Rp X.K O H d v
  blt : ∀ x ∈ bltNames, X.mg x = none
  fns : ∀ f fn, p.fns.lookup f = some fn → ∃ a fd ps, X.mg f = some (.ref a) ∧ PySem.W.keepIn X.K (.ref a) = true ∧ Binds X.K fd ps [] ∧ FnOk X.prog X.w X.K X.mg X.base CX0 n a fd ps (spF X.K (run p n f))
  dct : ∀ x kvs, p.dct.lookup x = some kvs → DctOk X.K X.w X.mg x kvs
  rps : ∀ x y, (x, y) ∈ p.rps → RpsOk p X.mg x y
theorem Cok.blk {p : Pg} {n : Nat} {N : List Str} {sc : Scope} {X : Cx} (h : Cok p n N sc X) (s : Shared) (H : Hp) (scope : Scope) (C : Addr) (cl : List (Str × Addr)) (fp : List Addr) : Cok p n N (relS scope sc) (X.blk s H scope (compEnvC scope cl C X.env) fp) :=
  ⟨h.names, h.nd, by rw [← h.scope]; rfl, h.calm, h.room, h.glb, h.blt, h.fns, h.dct, h.rps⟩

theorem vis_of {sc : Scope} {x : Str} (h : isVis sc x = true) : Vis sc x := by
  unfold isVis at h
  split at h
  · exact .inl (by assumption)
  · exact .inr (.inl (by assumption))
  · exact .inr (.inr (by assumption))
  · exact nomatch h
theorem loc_of {sc : Scope} {x : Str} (h : isLoc sc x = true) : Loc sc x := by
  unfold isLoc at h
  split at h
  · exact .inl (by assumption)
  · exact .inr (by assumption)
  · exact nomatch h
theorem nm_of {x : Str} (h : nmOk x = true) : (x == ("__debug__" : Str)) = false ∧ (x == ("__classdict__" : Str)) = false ∧ x ≠ ("__name__" : Str) := by
  unfold nmOk at h
  rw [Bool.and_eq_true, Bool.and_eq_true] at h
  refine ⟨by simpa using h.1.1, by simpa using h.1.2, fun e => ?_⟩
  rw [e] at h
  simp at h
section
variable {p : Pg} {n : Nat} {N : List Str} {sc : Scope} {X : Cx} {M : List Nat}
theorem Cok.gl (h : Cok p n N sc X) {x : Str} (hx : isGl sc x = true) : Gl X x := by
  show X.env.kindOf x = some .globalImplicit
  unfold Env.kindOf
  rw [h.scope]
  exact eq_of_beq hx
theorem Cok.vis (h : Cok p n N sc X) {x : Str} (hx : isVis sc x = true) : Vis X.env.scope x := by rw [h.scope]; exact vis_of hx
theorem no_star {e' : E} {e : Expr} (h : chkE p N M sc e' e = true) : ∀ v q, e ≠ .Starred v q := fun v q z => by
  subst z
  cases e' <;> simp [chkE] at h
theorem star_of {a : Expr} {as : List Expr} {env : Env} (h : ∀ v q, a ≠ .Starred v q) : starEach (a :: as) env = (false, eval a env) :: starEach as env := by
  cases a <;> first
    | rfl
    | exact absurd rfl (h _ _)
theorem stars {b : Bool} : ∀ {es' : List E} {es : List Expr} {env : Env}, chkEs p N M b sc es' es = true → ∀ x ∈ starEach es env, x.1 = false
  | [], es, env, h => by
    rw [chkEs] at h
    rw [List.isEmpty_iff.mp h]
    intro x hx
    exact nomatch hx
  | e' :: es', [], env, h => by
    intro x hx
    exact nomatch hx
  | e' :: es', e :: es, env, h => by
    rw [chkEs, Bool.and_eq_true, Bool.and_eq_true] at h
    rw [star_of (no_star h.1.1)]
    intro x hx
    rcases List.mem_cons.mp hx with rfl | hx
    · rfl
    · exact stars h.2 x hx
theorem back_of {pos : Pos} {l : List (Bool × Sem Value)} (h : ∀ x ∈ l, x.1 = false) : (backTo pos l).any (·.1) = false := by
  unfold backTo
  rw [List.any_map, List.any_eq_false]
  intro x hx
  have := h x hx
  simp [this]
theorem plainIx_of {b : Expr} (h : noSlice b = true) : PlainIx b := by
  intro o i
  cases b <;> first
    | rfl
    | exact nomatch h
theorem biName_blt (b : Bi) : biName b ∈ bltNames := by cases b <;> decide +kernel
theorem biName_ok (b : Bi) : biName b ≠ ("__name__" : Str) ∧ (biName b == ("__debug__" : Str)) = false := by cases b <;> decide +kernel
/-- T as a value -/
theorem ty_pe (h : Cok p n N sc X) {t : Ty} {pos : Pos} (hg : isGl sc (tyName t : Str) = true) : PE X (.Name (tyName t : Str) pos) (tC (.ty (tyName t))) := by
  have hg' := h.gl hg
  cases t with
  | int => exact pe_bltn hg' (h.blt _ (by decide +kernel)) (u := .type "int") (by decide +kernel) rfl (by decide +kernel) (by decide +kernel)
  | bool => exact pe_bltn hg' (h.blt _ (by decide +kernel)) (u := .type "bool") (by decide +kernel) rfl (by decide +kernel) (by decide +kernel)
  | str => exact pe_bltn hg' (h.blt _ (by decide +kernel)) (u := .type "str") (by decide +kernel) rfl (by decide +kernel) (by decide +kernel)
  | tuple => exact pe_bltn hg' (h.blt _ (by decide +kernel)) (u := .type "tuple") (by decide +kernel) rfl (by decide +kernel) (by decide +kernel)
  | list => exact pe_bltn hg' (h.blt _ (by decide +kernel)) (u := .type "list") (by decide +kernel) rfl (by decide +kernel) (by decide +kernel)
theorem isTrue_plain_of {e : Expr} {env : Env} (h : plainT e = true) : ∀ whole, isTrue e env whole = (do let v ← whole; standAt e.pos; holding [v] (truthy v)) := by
  intro whole
  cases e <;> first
    | rfl
    | exact nomatch h
/-- a built-in called -/
theorem bi_pe (h : Cok p n N sc X) {b : Bi} {a : Expr} {as : List Expr} {es' : List E} {q pos : Pos} (hg : isGl sc (biName b) = true) (ha : PA X (a :: as) (tWs (cfOf p n) X.K M es')) (hs : starEach (a :: as) X.env = (false, eval a X.env) :: starEach as X.env)
    (hpl : (backTo pos (starEach as X.env)).any (·.1) = false) : PE X (.Call (.Name (biName b) q) (a :: as) [] pos) (tE (cfOf p n) X.K M (.bi b es')) := by
  have hg' := h.gl hg
  have hm := h.blt _ (biName_blt b)
  obtain ⟨n1, n2⟩ := biName_ok b
  have go : ∀ {id : String} {g : List D → R D}, Cap X (.builtin id) g → bootBuiltins (biName b) = some (.builtin id) → (∀ xs, dBi b xs = g xs) → PE X (.Call (.Name (biName b) q) (a :: as) [] pos) (tE (cfOf p n) X.K M (.bi b es')) := fun ⟨r, hc, hcs⟩ hv hd =>
    l_bi (a := a) (as := as) (as' := es') (g := _) hcs (fun ρ => by rw [ev]; congr 1; funext xs; exact hd xs) (pe_callB hc hg' hm hv ha n1 n2 hs hpl)
  have goT : ∀ {T : String} {g : List D → R D}, Cap X (.type T) g → bootBuiltins (biName b) = some (.type T) → (∀ xs, dBi b xs = g xs) → PE X (.Call (.Name (biName b) q) (a :: as) [] pos) (tE (cfOf p n) X.K M (.bi b es')) := fun ⟨r, hc, hcs⟩ hv hd =>
    l_bi (a := a) (as := as) (as' := es') (g := _) hcs (fun ρ => by rw [ev]; congr 1; funext xs; exact hd xs) (pe_callTy hc hg' hm hv ha n1 n2 hs hpl)
  have hbad : (∀ xs, dBi b xs = .bad) → PE X (.Call (.Name (biName b) q) (a :: as) [] pos) (tE (cfOf p n) X.K M (.bi b es')) := fun hb => ⟨fun pins s σ H Q I ⟨O, ρ, d, o, ee, _⟩ => by
    rw [ev] at ee
    obtain ⟨xs, _, ee⟩ := bind_ok ee
    rw [hb] at ee
    exact nomatch ee⟩
  cases b with
  | len => exact go cap_len (by decide +kernel) fun xs => by rw [dBi]
  | int => exact goT cap_int (by decide +kernel) fun xs => by rw [dBi]
  | str => exact goT cap_str (by decide +kernel) fun xs => by rw [dBi]
  | tuple => exact goT cap_tuple (by decide +kernel) fun xs => by rw [dBi]
  | list => exact goT cap_list (by decide +kernel) fun xs => by rw [dBi]
  | sum => exact go (cap_sum h.calm) (by decide +kernel) fun xs => by rw [dBi]
  | max => exact go (cap_max h.calm) (by decide +kernel) fun xs => by rw [dBi]
  | min => exact go (cap_min h.calm) (by decide +kernel) fun xs => by rw [dBi]
  | abs => exact go cap_abs (by decide +kernel) fun xs => by rw [dBi]
  | all => exact go (cap_all h.calm) (by decide +kernel) fun xs => by rw [dBi]
  | sorted => exact go cap_sorted (by decide +kernel) fun xs => by rw [dBi]
end
/-- gives a new list, if a list -/
def isFresh : E → Bool
  | .lst _ => true
  | .lc _ _ _ _ _ _ => true
  | .bin .Add _ _ => true
  | .bin .Mult _ _ => true
  | _ => false
/-- all readings -/
structure PEb (p : Pg) (n : Nat) (M : List Nat) (X : Cx) (e : Expr) (e' : E) : Prop where
  we : PE X e (tW (cfOf p n) X.K M e')
  st : wk M e' = false → PE X e (tE (cfOf p n) X.K M e')
  fr : isFresh e' = true → PE X e (tF (cfOf p n) X.K M e')
theorem PEb.of {p : Pg} {n : Nat} {M : List Nat} {X : Cx} {e : Expr} {e' : E} (h : PE X e (tE (cfOf p n) X.K M e')) (hf : isFresh e' = false := by rfl) : PEb p n M X e e' := ⟨pe_weak h, fun _ => h, fun z => by rw [hf] at z; exact nomatch z⟩
section
variable {p : Pg} {n : Nat} {N : List Str} {M : List Nat}
theorem names_ok {sc : Scope} {X : Cx} {top : Bool} (h : Cok p n N sc X) (hf : ∀ x, Loc sc x → (top = true ∨ sc.names.lookup x = some .local) → X.fn x = true ∨ sc.names.lookup x = some .local) :
    ∀ {es : List Expr} {is : List Nat}, chkNames N sc top M es is = true → PGs X es (gsN is) ∧ (assignEach es X.env).length = is.length ∧ (assignEach es X.env).findIdx? (·.1) = none ∧ ∀ i ∈ is, i ∉ M
  | [], [], _ => ⟨pgs_nil, rfl, rfl, fun _ z => nomatch z⟩
  | [], _ :: _, hc => nomatch hc
  | .Name x q :: es, i :: is, hc => by
    rw [chkNames] at hc
    simp only [Bool.and_eq_true] at hc
    obtain ⟨⟨⟨⟨h1, h2⟩, h3⟩, h4⟩, h5⟩ := hc
    obtain ⟨g1, g2, g3, g4⟩ := names_ok h hf h5
    have hl := loc_of h2
    have h3' : top = true ∨ sc.names.lookup x = some .local := by
      rw [Bool.or_eq_true] at h3
      exact h3.imp id eq_of_beq
    refine ⟨pgs_cons (pg_name (by rw [h.names]; exact h.nd) (by rw [h.names]; exact eq_of_beq h1) (by rw [h.scope]; exact hl) (by rw [h.scope]; exact hf x hl h3')) g1, ?_, ?_, ?_⟩
    · show (assignEach es X.env).length + 1 = is.length + 1
      rw [g2]
    · show List.findIdx? (·.1) ((false, assign (.Name x q) X.env) :: assignEach es X.env) = none
      rw [List.findIdx?_cons, g3]
      rfl
    · intro j hj
      rcases List.mem_cons.mp hj with rfl | hj
      · intro z
        rw [List.contains_iff_mem.mpr z] at h4
        exact nomatch h4
      · exact g4 j hj
theorem tg_ok {sc : Scope} {X : Cx} {top : Bool} (h : Cok p n N sc X) (hf : ∀ x, Loc sc x → (top = true ∨ sc.names.lookup x = some .local) → X.fn x = true ∨ sc.names.lookup x = some .local) {e : Expr} {tg : Tg} (hc : chkTg N sc top M e tg = true) :
    PG X e (tG X.K M tg) ∧ ∀ i ∈ slots tg, i ∉ M := by
  cases tg with
  | one i =>
    rw [chkTg] at hc
    cases e with
    | Name x q =>
      rw [chkNames] at hc
      simp only [Bool.and_eq_true] at hc
      obtain ⟨⟨⟨⟨h1, h2⟩, h3⟩, h4⟩, h5⟩ := hc
      have hl := loc_of h2
      have h3' : top = true ∨ sc.names.lookup x = some .local := by
        rw [Bool.or_eq_true] at h3
        exact h3.imp id eq_of_beq
      have hM : i ∉ M := fun z => by
        rw [List.contains_iff_mem.mpr z] at h4
        exact nomatch h4
      refine ⟨g_one (by rw [h.names]; exact h.nd) (by rw [h.names]; exact eq_of_beq h1) (by rw [h.scope]; exact hl) (by rw [h.scope]; exact hf x hl h3') hM, fun j hj => ?_⟩
      rw [List.mem_singleton.mp hj]
      exact hM
    | _ => exact nomatch hc
  | many is =>
    cases e with
    | Tuple es k q =>
      obtain ⟨g1, g2, g3, g4⟩ := names_ok h hf hc
      exact ⟨g_many h.calm g1 g2 g3 g4, g4⟩
    | _ => exact nomatch hc
end
end LC

set_option Elab.async false
set_option linter.all false
set_option maxRecDepth 100000
set_option maxHeartbeats 4000000
/-! LC: the checker is right, expressions: the induction -/
namespace LC
open PySem PySem.Spec PyProof.Rows L2
section
variable {p : Pg} {n : Nat} {N : List Str} {M : List Nat}
theorem wk_not {e : E} (h : (!wk M e) = true) : wk M e = false := by simpa using h
theorem blkNames {own : List Nat} : (own.map fun i => (N.getD i ("" : Str), i)).map (·.2) = own := by
  rw [List.map_map]
  exact List.map_id' own
theorem noFold {k : Src} {iter : Expr} {as : List Expr} {ss : List E} {sc : Scope} {b : Bool} {env : Env} (hs : srcArgs k iter = some as) (hc : chkEs p N M b sc ss as = true) : ∀ x, foldedSetIterable iter env x = pure x := by
  intro x
  cases iter with
  | Set es k2 q =>
    cases k with
    | seq =>
      cases hs
      cases ss with
      | nil => exact nomatch hc
      | cons s r =>
        rw [chkEs, Bool.and_eq_true, Bool.and_eq_true] at hc
        have := hc.1.1
        cases s <;> simp [chkE] at this
    | rng => exact nomatch hs
    | enum => exact nomatch hs
    | zip => exact nomatch hs
  | _ => rfl
theorem rng_shape {iter : Expr} {as : List Expr} (h : srcArgs .rng iter = some as) : ∃ q pos, iter = .Call (.Name ("range" : Str) q) as [] pos := by
  cases iter with
  | Call f args kws pos =>
    cases f with
    | Name x q =>
      cases kws with
      | nil =>
        rw [srcArgs] at h
        split at h
        · rename_i hx
          cases h
          exact ⟨q, pos, by rw [eq_of_beq hx]⟩
        · exact nomatch h
      | cons _ _ => exact nomatch h
    | _ => exact nomatch h
  | _ => exact nomatch h
theorem enum_shape {iter : Expr} {as : List Expr} (h : srcArgs .enum iter = some as) : ∃ a q pos, as = [a] ∧ iter = .Call (.Name ("enumerate" : Str) q) [a] [] pos := by
  cases iter with
  | Call f args kws pos =>
    cases f with
    | Name x q =>
      cases kws with
      | nil =>
        cases args with
        | nil => exact nomatch h
        | cons a r =>
          cases r with
          | nil =>
            rw [srcArgs] at h
            split at h
            · rename_i hx
              cases h
              exact ⟨a, q, pos, rfl, by rw [eq_of_beq hx]⟩
            · exact nomatch h
          | cons _ _ => exact nomatch h
      | cons _ _ =>
        cases args with
        | nil => exact nomatch h
        | cons a r => cases r <;> exact nomatch h
    | _ => exact nomatch h
  | _ => exact nomatch h
theorem zip_shape {iter : Expr} {as : List Expr} (h : srcArgs .zip iter = some as) : ∃ a b q pos, as = [a, b] ∧ iter = .Call (.Name ("zip" : Str) q) [a, b] [] pos := by
  cases iter with
  | Call f args kws pos =>
    cases f with
    | Name x q =>
      cases kws with
      | nil =>
        cases args with
        | nil => exact nomatch h
        | cons a r =>
          cases r with
          | nil => exact nomatch h
          | cons b r =>
            cases r with
            | nil =>
              rw [srcArgs] at h
              split at h
              · rename_i hx
                cases h
                exact ⟨a, b, q, pos, rfl, by rw [eq_of_beq hx]⟩
              · exact nomatch h
            | cons _ _ => exact nomatch h
      | cons _ _ =>
        cases args with
        | nil => exact nomatch h
        | cons a r =>
          cases r with
          | nil => exact nomatch h
          | cons b r => cases r <;> exact nomatch h
    | _ => exact nomatch h
  | _ => exact nomatch h
theorem chkEs_len {b : Bool} {sc : Scope} : ∀ {es' : List E} {es : List Expr}, chkEs p N M b sc es' es = true → es'.length = es.length
  | [], es, h => by
    rw [chkEs] at h
    rw [List.isEmpty_iff.mp h]
    rfl
  | e' :: es', [], h => nomatch h
  | e' :: es', e :: es, h => by
    rw [chkEs, Bool.and_eq_true] at h
    rw [List.length_cons, List.length_cons, chkEs_len h.2]
theorem chkEs_star {b : Bool} {sc : Scope} {a' : E} {as' : List E} {a : Expr} {as : List Expr} {env : Env} (h : chkEs p N M b sc (a' :: as') (a :: as) = true) : starEach (a :: as) env = (false, eval a env) :: starEach as env := by
  rw [chkEs, Bool.and_eq_true, Bool.and_eq_true] at h
  exact star_of (no_star h.1.1)
theorem chkEs_tail {b : Bool} {sc : Scope} {a' : E} {as' : List E} {a : Expr} {as : List Expr} (h : chkEs p N M b sc (a' :: as') (a :: as) = true) : chkEs p N M b sc as' as = true := by
  rw [chkEs, Bool.and_eq_true] at h
  exact h.2
theorem src_ok {sc : Scope} {X : Cx} (h : Cok p n N sc X) {b : Bool} {tg iter : Expr} {k : Src} {as : List Expr} {ss : List E} (hk : srcOk sc tg k = true) (hs : srcArgs k iter = some as) (hc : chkEs p N M b sc ss as = true)
    (hp : PA X as (tBs b (cfOf p n) X.K M ss)) (h1 : ∀ e e', as = [e] → ss = [e'] → PE X e (tB1 b (cfOf p n) X.K M e')) : PI X tg iter (tI b (cfOf p n) X.K M k ss) := by
  cases k with
  | seq =>
    cases hs
    cases ss with
    | nil => exact nomatch hc
    | cons s r =>
      cases r with
      | nil => exact s_seq (h1 _ _ rfl rfl)
      | cons s2 r =>
        rw [chkEs, Bool.and_eq_true] at hc
        exact nomatch hc.2
  | rng =>
    obtain ⟨q, pos, rfl⟩ := rng_shape hs
    have hg := h.gl (show isGl sc ("range" : Str) = true from hk)
    have hm := h.blt ("range" : Str) (by decide +kernel)
    have hl := chkEs_len hc
    match ss, as, hl with
    | [], [], _ =>
      exact ⟨fun pins s σ H R I ⟨O, ρ, ds, its, o, ee, ei, _⟩ => by
        rw [evs] at ee
        cases ee
        exact nomatch ei⟩
    | [s1], [a1], _ =>
      have e1 : starEach [a1] X.env = [(false, eval a1 X.env)] := chkEs_star hc
      exact s_rng1 hg hm hp e1
    | [s1, s2], [a1, a2], _ =>
      have e1 : starEach [a1, a2] X.env = (false, eval a1 X.env) :: starEach [a2] X.env := chkEs_star hc
      have e2 : starEach [a2] X.env = [(false, eval a2 X.env)] := chkEs_star (chkEs_tail hc)
      exact s_rng2 hg hm hp (by rw [e1, e2]) e2
    | [s1, s2, s3], [a1, a2, a3], _ =>
      have e1 : starEach [a1, a2, a3] X.env = (false, eval a1 X.env) :: starEach [a2, a3] X.env := chkEs_star hc
      exact s_rng3 hg hm hp e1 (back_of (stars (chkEs_tail hc)))
    | _ :: _ :: _ :: _ :: _, _ :: _ :: _ :: _ :: _, _ =>
      exact ⟨fun pins s σ H R I ⟨O, ρ, ds, its, o, ee, ei, _⟩ => by
        rw [evs] at ee
        obtain ⟨d1, _, ee⟩ := bind_ok ee
        obtain ⟨r1, f1, ee⟩ := bind_ok ee
        rw [evs] at f1
        obtain ⟨d2, _, f1⟩ := bind_ok f1
        obtain ⟨r2, f2, f1⟩ := bind_ok f1
        rw [evs] at f2
        obtain ⟨d3, _, f2⟩ := bind_ok f2
        obtain ⟨r3, f3, f2⟩ := bind_ok f2
        rw [evs] at f3
        obtain ⟨d4, _, f3⟩ := bind_ok f3
        obtain ⟨r4, _, f3⟩ := bind_ok f3
        cases f3
        cases f2
        cases f1
        cases ee
        rw [items] at ei
        unfold itRng at ei
        split at ei
        · rename_i he
          cases he
        · rename_i he
          cases he
        · rename_i he
          cases he
        · exact nomatch ei⟩
  | enum =>
    obtain ⟨a, q, pos, rfl, rfl⟩ := enum_shape hs
    have hk' : (isGl sc ("enumerate" : Str) && isTupE tg) = true := hk
    rw [Bool.and_eq_true] at hk'
    have hg := h.gl hk'.1
    have hm := h.blt ("enumerate" : Str) (by decide +kernel)
    have hl := chkEs_len hc
    match ss, hl with
    | [s1], _ =>
      cases tg with
      | Tuple es k2 q2 => exact s_enum hg hm hp (chkEs_star hc)
      | _ => exact nomatch hk'.2
  | zip =>
    obtain ⟨a, b2, q, pos, rfl, rfl⟩ := zip_shape hs
    have hk' : (isGl sc ("zip" : Str) && isTupE tg) = true := hk
    rw [Bool.and_eq_true] at hk'
    have hg := h.gl hk'.1
    have hm := h.blt ("zip" : Str) (by decide +kernel)
    have hl := chkEs_len hc
    match ss, hl with
    | [s1, s2], _ =>
      cases tg with
      | Tuple es k2 q2 => exact s_zip hg hm hp (chkEs_star hc) (back_of (stars (chkEs_tail hc)))
      | _ => exact nomatch hk'.2
end
end LC

set_option Elab.async false
set_option linter.all false
set_option maxRecDepth 100000
set_option maxHeartbeats 4000000
/-! LC: the checker is right, expressions: the induction -/
namespace LC
open PySem PySem.Spec PyProof.Rows L2
section
variable {p : Pg} {n : Nat} {N : List Str} {M : List Nat}
theorem units_of {k : Nat} {A : Around} (r : Room k A) : A.units + 65 < cLine := by
  have := r.un
  omega
theorem binOk_of {o : Operator} (h : binOk o = true) : o = .Add ∨ o = .Sub ∨ o = .Mult ∨ o = .FloorDiv ∨ o = .Mod ∨ o = .Pow := by
  cases o <;> first
    | (cases h; done)
    | simp
theorem stp_ok {X : Cx} {k : Stp} {lo : Option Expr} {st : Expr} (h : stpOk k lo st = true) : PO X lo (fun _ H Q => Q (stpLo k) H) ∧ PO X (some st) (fun _ H Q => Q (some (stpSt k)) H) := by
  unfold stpOk at h
  split at h
  · exact ⟨po_none, po_neg1⟩
  · exact ⟨po_none, po_two⟩
  · exact ⟨po_one, po_two⟩
  · exact nomatch h
theorem Cok.fnb {sc : Scope} {X : Cx} {scope : Scope} (s : Shared) (H : Hp) (C : Addr) (cl : List (Str × Addr)) (fp : List Addr) : ∀ x, Loc (relS scope sc) x → (false = true ∨ (relS scope sc).names.lookup x = some .local) → (X.blk s H scope (compEnvC scope cl C X.env) fp).fn x = true ∨ (relS scope sc).names.lookup x = some .local :=
  fun x _ h => .inr (h.resolve_left (fun z => nomatch z))
theorem attr_ok {o : Expr} {nm : Str} {env : Env} (h : attrOk o = true) : attributeBase o nm env (eval o env) = eval o env := by
  unfold attributeBase
  split
  · exact nomatch h
  · rfl
theorem few_ok {a : Expr} {as : List Expr} {env : Env} {cpos : Pos} (h : ∀ x ∈ starEach (a :: as) env, x.1 = false) (hl : decide (as.length < 9) = true) : ((backTo cpos (starEach (a :: as) env)).all (fun x => !x.1) && (backToKw cpos (keywordEach [] env)).all (fun x => x.1.isSome) && decide ((a :: as).length + ([] : List Keyword).length + (if ([] : List Keyword).isEmpty then 0 else 1) < 30)) = true := by
  have h1 : (backTo cpos (starEach (a :: as) env)).all (fun x => !x.1) = true := by
    unfold backTo
    rw [List.all_map]
    refine List.all_eq_true.mpr fun x hx => ?_
    have := h x hx
    simp [this]
  have h2 := of_decide_eq_true hl
  rw [h1, Bool.true_and, Bool.and_eq_true]
  refine ⟨rfl, decide_eq_true ?_⟩
  show as.length + 1 + 0 + 0 < 30
  omega
mutual
theorem chkE_ok : ∀ (e' : E) (sc : Scope) (X : Cx) (e : Expr), Cok p n N sc X → chkE p N M sc e' e = true → PEb p n M X e e'
  | .var i, sc, X, e, h, hc => by
    unfold chkE at hc
    split at hc
    · simp only [Bool.and_eq_true] at hc
      obtain ⟨⟨h1, h2⟩, h3⟩ := hc
      obtain ⟨n1, n2, _⟩ := nm_of h3
      have hN := eq_of_beq h1
      refine ⟨l_varW (by rw [h.names]; exact hN) (h.vis h2) n1 n2, fun hw => l_var (by rw [h.names]; exact hN) (h.vis h2) n1 n2 fun z => ?_, fun z => nomatch z⟩
      have hw' : M.contains i = false := hw
      rw [List.contains_iff_mem.mpr z] at hw'
      exact nomatch hw'
    · exact nomatch hc
  | .glb y, sc, X, e, h, hc => by
    unfold chkE at hc
    split at hc
    · simp only [Bool.and_eq_true] at hc
      obtain ⟨⟨⟨h1, h2⟩, h3⟩, h4⟩ := hc
      have hy := eq_of_beq h1
      subst hy
      obtain ⟨n1, n2, _⟩ := nm_of h3
      obtain ⟨d, hd⟩ := Option.isSome_iff_exists.mp h4
      obtain ⟨v, u, g1, g2, g3⟩ := h.glb _ d hd
      exact PEb.of (l_glb (pe_glob (h.gl h2) g1 g2 n1) hd g3)
    · exact nomatch hc
  | .cst d, sc, X, e, h, hc => by
    unfold chkE at hc
    split at hc
    · cases eq_of_beq hc
      exact PEb.of (l_cst pe_int fun _ _ _ => rp_int)
    · cases eq_of_beq hc
      exact PEb.of (l_cst pe_bl fun _ _ _ => rp_bl)
    · cases eq_of_beq hc
      exact PEb.of (l_cst pe_str fun _ _ _ => rp_str)
    · exact PEb.of (l_cst pe_non fun _ _ _ => rp_non)
    · exact nomatch hc
  | .bin o a' b', sc, X, e, h, hc => by
    unfold chkE at hc
    split at hc
    · simp only [Bool.and_eq_true] at hc
      obtain ⟨⟨⟨h1, h2⟩, h3⟩, h4⟩ := hc
      have ho := eq_of_beq h1
      subst ho
      have ga := (chkE_ok a' sc X _ h h3).we
      have gb := (chkE_ok b' sc X _ h h4).we
      have g := l_bin (pos := ‹Pos›) (opp_bin _ (binOk_of h2)) ga gb
      refine ⟨pe_weak g, fun _ => g, fun z => ?_⟩
      have ho : ∀ o : Operator, isFresh (.bin o a' b') = true → o = .Add ∨ o = .Mult := fun o hz => by
        cases o <;> first
          | exact .inl rfl
          | exact .inr rfl
          | (cases hz; done)
      rcases ho _ z with rfl | rfl
      · exact l_addF ga gb
      · exact l_mulF ga gb
    · exact nomatch hc
  | .neg a', sc, X, e, h, hc => by
    unfold chkE at hc
    split at hc
    · exact PEb.of (l_neg (chkE_ok a' sc X _ h hc).we)
    · exact nomatch hc
  | .not a', sc, X, e, h, hc => by
    unfold chkE at hc
    split at hc
    · exact PEb.of (l_not (chkE_ok a' sc X _ h hc).we)
    · exact nomatch hc
  | .cmp o a' b', sc, X, e, h, hc => by
    unfold chkE at hc
    split at hc
    · simp only [Bool.and_eq_true] at hc
      obtain ⟨⟨⟨h1, h2⟩, h3⟩, h4⟩ := hc
      have ho := eq_of_beq h1
      subst ho
      exact PEb.of (l_cmp (opp_cmp (units_of h.room) _) (chkE_ok a' sc X _ h h3).we (chkE_ok b' sc X _ h h4).we (by simpa using h2))
    · exact nomatch hc
  | .chn o o2 a' b' f', sc, X, e, h, hc => by
    unfold chkE at hc
    split at hc
    · simp only [Bool.and_eq_true] at hc
      obtain ⟨⟨⟨⟨⟨h1, h1'⟩, h2⟩, h3⟩, h4⟩, h5⟩ := hc
      have ho := eq_of_beq h1
      have ho' := eq_of_beq h1'
      subst ho ho'
      exact PEb.of (l_chn (opp_cmp (units_of h.room) _) (opp_cmp (units_of h.room) _) (chkE_ok a' sc X _ h h3).we (chkE_ok b' sc X _ h h4).we (chkE_ok f' sc X _ h h5).we (by simpa using h2))
    · exact nomatch hc
  | .and a b, sc, X, e, h, hc => by
    unfold chkE at hc
    split at hc
    · simp only [Bool.and_eq_true] at hc
      obtain ⟨⟨h1, h2⟩, h3⟩ := hc
      exact PEb.of (l_and (chkE_ok a sc X _ h h1).we (pe_one ((chkE_ok b sc X _ h h2).st (wk_not h3))))
    · rw [Bool.and_eq_true] at hc
      obtain ⟨h1, hc⟩ := hc
      split at hc
      · rename_i b1 b2
        simp only [Bool.and_eq_true] at hc
        obtain ⟨⟨h2, h3⟩, h4⟩ := hc
        exact PEb.of (l_and (chkE_ok a sc X _ h h1).we (l_and (chkE_ok b1 sc X _ h h2).we (pe_one ((chkE_ok b2 sc X _ h h3).st (wk_not h4)))))
      · exact nomatch hc
    · rw [Bool.and_eq_true] at hc
      obtain ⟨h1, hc⟩ := hc
      split at hc
      · rename_i b1 b2 b3
        simp only [Bool.and_eq_true] at hc
        obtain ⟨⟨⟨h2, h3⟩, h4⟩, h5⟩ := hc
        exact PEb.of (l_and (chkE_ok a sc X _ h h1).we (l_and (chkE_ok b1 sc X _ h h2).we (l_and (chkE_ok b2 sc X _ h h3).we (pe_one ((chkE_ok b3 sc X _ h h4).st (wk_not h5))))))
      · exact nomatch hc
    · exact nomatch hc
  | .or a b, sc, X, e, h, hc => by
    unfold chkE at hc
    split at hc
    · simp only [Bool.and_eq_true] at hc
      obtain ⟨⟨h1, h2⟩, h3⟩ := hc
      exact PEb.of (l_or (chkE_ok a sc X _ h h1).we (pe_one ((chkE_ok b sc X _ h h2).st (wk_not h3))))
    · rw [Bool.and_eq_true] at hc
      obtain ⟨h1, hc⟩ := hc
      split at hc
      · rename_i b1 b2
        simp only [Bool.and_eq_true] at hc
        obtain ⟨⟨h2, h3⟩, h4⟩ := hc
        exact PEb.of (l_or (chkE_ok a sc X _ h h1).we (l_or (chkE_ok b1 sc X _ h h2).we (pe_one ((chkE_ok b2 sc X _ h h3).st (wk_not h4)))))
      · exact nomatch hc
    · rw [Bool.and_eq_true] at hc
      obtain ⟨h1, hc⟩ := hc
      split at hc
      · rename_i b1 b2 b3
        simp only [Bool.and_eq_true] at hc
        obtain ⟨⟨⟨h2, h3⟩, h4⟩, h5⟩ := hc
        exact PEb.of (l_or (chkE_ok a sc X _ h h1).we (l_or (chkE_ok b1 sc X _ h h2).we (l_or (chkE_ok b2 sc X _ h h3).we (pe_one ((chkE_ok b3 sc X _ h h4).st (wk_not h5))))))
      · exact nomatch hc
    · exact nomatch hc
  | .idx a' b', sc, X, e, h, hc => by
    unfold chkE at hc
    split at hc
    · simp only [Bool.and_eq_true] at hc
      obtain ⟨⟨h1, h2⟩, h3⟩ := hc
      exact PEb.of (l_idx (chkE_ok a' sc X _ h h2).we (chkE_ok b' sc X _ h h3).we (plainIx_of h1))
    · exact nomatch hc
  | .cut a' bl lo' bh hi', sc, X, e, h, hc => by
    unfold chkE at hc
    split at hc
    · rename_i a lo hi _ _
      simp only [Bool.and_eq_true] at hc
      obtain ⟨⟨h1, h2⟩, h3⟩ := hc
      have g2 : PO X lo (tO (cfOf p n) X.K M bl lo') := by
        cases lo with
        | none =>
          have hb : bl = false := by simpa using h2
          rw [hb]
          exact l_noPart
        | some f =>
          have hb : bl = true ∧ chkE p N M sc lo' f = true := by simpa using h2
          rw [hb.1]
          exact l_part (chkE_ok lo' sc X _ h hb.2).we
      have g3 : PO X hi (tO (cfOf p n) X.K M bh hi') := by
        cases hi with
        | none =>
          have hb : bh = false := by simpa using h3
          rw [hb]
          exact l_noPart
        | some f =>
          have hb : bh = true ∧ chkE p N M sc hi' f = true := by simpa using h3
          rw [hb.1]
          exact l_part (chkE_ok hi' sc X _ h hb.2).we
      exact PEb.of (l_cut (chkE_ok a' sc X _ h h1).we g2 g3)
    · exact nomatch hc
  | .stp k a', sc, X, e, h, hc => by
    unfold chkE at hc
    split at hc
    · rw [Bool.and_eq_true] at hc
      obtain ⟨g1, g2⟩ := stp_ok (X := X) hc.1
      exact PEb.of (l_stp k (chkE_ok a' sc X _ h hc.2).we g1 g2)
    · exact nomatch hc
  | .tup es', sc, X, e, h, hc => by
    unfold chkE at hc
    split at hc
    · exact PEb.of (l_tup (chkEs_ok es' true sc X _ h hc))
    · exact nomatch hc
  | .lst es', sc, X, e, h, hc => by
    unfold chkE at hc
    split at hc
    · have g := chkEs_ok es' true sc X _ h hc
      exact ⟨pe_weak (l_lst g), fun _ => l_lst g, fun _ => l_lstF g⟩
    · exact nomatch hc
  | .call f es', sc, X, e, h, hc => by
    unfold chkE at hc
    split at hc
    · simp only [Bool.and_eq_true] at hc
      obtain ⟨⟨⟨⟨h1, h2⟩, h3⟩, h4⟩, h5⟩ := hc
      have hf := eq_of_beq h1
      subst hf
      obtain ⟨n1, _, _⟩ := nm_of h3
      obtain ⟨fn, hfn⟩ := Option.isSome_iff_exists.mp h4
      obtain ⟨a, fd, ps, g1, g2, g3, g4⟩ := h.fns _ fn hfn
      have hp : PA X _ (tEs (cfOf p n) X.K M es') := chkEs_ok es' true sc X _ h h5
      cases es' with
      | nil => exact nomatch h5
      | cons s r => exact PEb.of (l_call g4 h.room (h.gl h2) g1 g2 g3 hp n1 (chkEs_star h5) (back_of (stars (chkEs_tail h5))))
    · exact nomatch hc
  | .bi b es', sc, X, e, h, hc => by
    unfold chkE at hc
    split at hc
    · simp only [Bool.and_eq_true] at hc
      obtain ⟨⟨h1, h2⟩, h3⟩ := hc
      have hx := eq_of_beq h1
      subst hx
      have hp : PA X _ (tWs (cfOf p n) X.K M es') := chkEs_ok es' false sc X _ h h3
      cases es' with
      | nil => exact nomatch h3
      | cons s r => exact PEb.of (bi_pe h h2 hp (chkEs_star h3) (back_of (stars (chkEs_tail h3))))
    · exact nomatch hc
  | .isi a' t, sc, X, e, h, hc => by
    unfold chkE at hc
    split at hc
    · simp only [Bool.and_eq_true] at hc
      obtain ⟨⟨⟨⟨h1, h2⟩, h3⟩, h4⟩, h5⟩ := hc
      have hx := eq_of_beq h1
      have hy := eq_of_beq h3
      subst hx hy
      have ha := (chkE_ok a' sc X _ h h5).we
      exact PEb.of (l_isi (pe_callB call_isi (h.gl h2) (h.blt _ (by decide +kernel)) (by decide +kernel) (pa_cons ha (pa_cons (ty_pe h h4) pa_nil) (star_of (no_star h5))) (by decide +kernel) (by decide +kernel) (star_of (no_star h5)) rfl))
    · exact nomatch hc
  | .lc own tg' k ss cond elt', sc, X, e, h, hc => by
    unfold chkE at hc
    split at hc
    · rename_i elt tg iter ifs ia scope pos
      simp only [Bool.and_eq_true] at hc
      obtain ⟨⟨⟨⟨⟨⟨⟨⟨⟨h1, h2⟩, h3⟩, h4⟩, h5⟩, h6⟩, h7⟩, h8⟩, h9⟩, h10⟩ := hc
      have hia := eq_of_beq h1
      subst hia
      split at h7
      · rename_i as hs
        have hpa : PA X as (tWs (cfOf p n) X.K M ss) := chkEs_ok ss false sc X _ h h7
        have hi : PI X tg iter (tI false (cfOf p n) X.K M k ss) := src_ok h h6 hs h7 hpa fun e0 e0' ea es0 => by
          subst ea es0
          rw [chkEs, Bool.and_eq_true, Bool.and_eq_true] at h7
          exact (chkE_ok e0' sc X _ h h7.1.1).we
        have hown : ∀ i ∈ own, i ∉ M := fun i hi z => by
          have := List.all_eq_true.mp h3 i hi
          rw [List.contains_iff_mem.mpr z] at this
          exact nomatch this
        have hsl : ∀ i ∈ slots tg', i ∈ own := fun i hi => List.contains_iff_mem.mp (List.all_eq_true.mp h4 i hi)
        have ht : ∀ (s : Shared) (H : Hp) (C : Addr) (cl : List (Str × Addr)) (fp : List Addr), PTs (X.blk s H scope (compEnvC scope cl C X.env) fp) ifs (tT (cfOf p n) X.K M cond) := fun s H C cl fp => by
          have hb := h.blk s H scope C cl fp
          split at h8
          · exact ⟨fun pins s σ H Q I ⟨O, ρ, d, b, o, ee, et, q⟩ => by
              rw [ev] at ee
              cases ee
              cases et
              exact pts_nil.run pins s σ H Q I (q H (Same.refl H))⟩
          · rw [Bool.and_eq_true] at h8
            rename_i x _ a
            exact pts_one (l_notT (l_truth (chkE_ok a _ _ _ hb h8.2).we (isTrue_plain_of h8.1)))
          · rename_i a op b _ o a' b'
            simp only [Bool.and_eq_true] at h8
            obtain ⟨⟨⟨g1, g2⟩, g3⟩, g4⟩ := h8
            have ho := eq_of_beq g1
            subst ho
            exact pts_one (l_cmpT (opp_cmp (units_of hb.room) _) (chkE_ok a' _ _ _ hb g3).we (chkE_ok b' _ _ _ hb g4).we (by simpa using g2) fun _ _ _ => dCmp_bl)
          · exact nomatch h8
        have hblk : BlkOk X.N X.env.scope scope (own.map fun i => (N.getD i ("" : Str), i)) := by
          rw [h.names, h.scope]
          exact blkOk_by h2
        have key := l_lcF (pos := pos) h.calm (by rw [h.names]; exact h.nd) hi hblk (fun s H C cl fp => (tg_ok (h.blk s H scope C cl fp) (Cok.fnb s H C cl fp) h5).1) ht (fun s H C cl fp => (chkE_ok elt' _ _ _ (h.blk s H scope C cl fp) h9).st (wk_not h10)) (noFold hs h7) (by rw [blkNames]; exact hown) (by rw [blkNames]; exact hsl)
        rw [blkNames] at key
        have g := pe_imp key fun σ H Q => tF_of lc_lst
        exact ⟨pe_weak g, fun _ => g, fun _ => key⟩
      · exact nomatch h7
    · exact nomatch hc
  | .mth m o' es', sc, X, e, h, hc => by
    unfold chkE at hc
    split at hc
    · simp only [Bool.and_eq_true] at hc
      obtain ⟨⟨⟨⟨⟨h1, h2⟩, h3⟩, h4⟩, h5⟩, h6⟩ := hc
      have hn := eq_of_beq h1
      subst hn
      have ho := (chkE_ok o' sc X _ h h5).we
      have hp : PA X _ (tWs (cfOf p n) X.K M es') := chkEs_ok es' false sc X _ h h6
      cases es' with
      | nil => exact nomatch h6
      | cons s r => exact PEb.of (l_mth ho hp (attr_ok h2) (few_ok (stars h6) h4) h3 (chkEs_star h6) (back_of (stars (chkEs_tail h6))))
    · exact nomatch hc
  | .rpl o' x y, sc, X, e, h, hc => by
    unfold chkE at hc
    split at hc
    · simp only [Bool.and_eq_true] at hc
      obtain ⟨⟨⟨⟨⟨⟨⟨⟨⟨⟨h1, h2⟩, h3⟩, h4⟩, h5⟩, h6⟩, h7⟩, h8⟩, h9⟩, h10⟩, h11⟩ := hc
      have hn := eq_of_beq h1
      have hx := eq_of_beq h4
      have hy := eq_of_beq h5
      subst hn hx hy
      obtain ⟨a, b, t, u, g1, g2, g3, g4, g5, g6, g7⟩ := h.rps _ _ (List.contains_iff_mem.mp h10)
      exact PEb.of (l_rpl (chkE_ok o' sc X _ h h11).we (h.gl h6) (h.gl h7) g1 g2 g3 g4 g5 g6 g7 (nm_of h8).1 (nm_of h9).1 (attr_ok h2) h3)
    · exact nomatch hc
  | .kin neg a' x, sc, X, e, h, hc => by
    unfold chkE at hc
    split at hc
    · simp only [Bool.and_eq_true] at hc
      obtain ⟨⟨⟨⟨⟨h1, h2⟩, h3⟩, h4⟩, h5⟩, h6⟩ := hc
      have ho := eq_of_beq h1
      have hx := eq_of_beq h2
      subst ho hx
      obtain ⟨kvs, hk⟩ := Option.isSome_iff_exists.mp h5
      obtain ⟨dd, es, m, g1, g2, g3⟩ := h.dct _ kvs hk
      exact PEb.of (l_kin (chkE_ok a' sc X _ h h6).we (h.gl h3) g1 g2 hk g3 (nm_of h4).1)
    · exact nomatch hc
  | .kget x a', sc, X, e, h, hc => by
    unfold chkE at hc
    split at hc
    · simp only [Bool.and_eq_true] at hc
      obtain ⟨⟨⟨⟨⟨h1, h2⟩, h3⟩, h4⟩, h5⟩, h6⟩ := hc
      have hx := eq_of_beq h2
      subst hx
      obtain ⟨kvs, hk⟩ := Option.isSome_iff_exists.mp h5
      obtain ⟨dd, es, m, g1, g2, g3⟩ := h.dct _ kvs hk
      exact PEb.of (l_kget (chkE_ok a' sc X _ h h6).we (h.gl h3) g1 g2 hk g3 (nm_of h4).1 (plainIx_of h1))
    · exact nomatch hc
  | .sst a', sc, X, e, h, hc => by
    unfold chkE at hc
    split at hc
    · simp only [Bool.and_eq_true] at hc
      obtain ⟨⟨⟨⟨h1, h2⟩, h3⟩, h4⟩, h5⟩ := hc
      have hf := eq_of_beq h1
      have hg := eq_of_beq h3
      subst hf hg
      have hst := star_of (as := []) (env := X.env) (no_star h5)
      have hp : PA X _ (tWs (cfOf p n) X.K M [a']) := l_consW (chkE_ok a' sc X _ h h5).we l_nilW hst
      exact PEb.of (l_sst h.calm (h.gl h2) (h.blt _ (by decide +kernel)) (h.gl h4) (h.blt _ (by decide +kernel)) hp hst)
    · exact nomatch hc
  | .lss a', sc, X, e, h, hc => by
    unfold chkE at hc
    split at hc
    · simp only [Bool.and_eq_true] at hc
      obtain ⟨⟨⟨⟨h1, h2⟩, h3⟩, h4⟩, h5⟩ := hc
      have hf := eq_of_beq h1
      have hg := eq_of_beq h3
      subst hf hg
      have hst := star_of (as := []) (env := X.env) (no_star h5)
      have hp : PA X _ (tWs (cfOf p n) X.K M [a']) := l_consW (chkE_ok a' sc X _ h h5).we l_nilW hst
      exact PEb.of (l_lss h.calm (h.gl h2) (h.blt _ (by decide +kernel)) (h.gl h4) (h.blt _ (by decide +kernel)) hp hst)
    · exact nomatch hc
theorem chkEs_ok : ∀ (es' : List E) (b : Bool) (sc : Scope) (X : Cx) (es : List Expr), Cok p n N sc X → chkEs p N M b sc es' es = true → PA X es (tBs b (cfOf p n) X.K M es')
  | [], b, sc, X, es, h, hc => by
    rw [chkEs] at hc
    rw [List.isEmpty_iff.mp hc]
    cases b with
    | true => exact l_nil
    | false => exact l_nilW
  | e' :: es', b, sc, X, [], h, hc => nomatch hc
  | e' :: es', b, sc, X, e :: es, h, hc => by
    rw [chkEs, Bool.and_eq_true, Bool.and_eq_true] at hc
    obtain ⟨⟨h1, h2⟩, h3⟩ := hc
    have ih := chkEs_ok es' b sc X es h h3
    have he := chkE_ok e' sc X e h h1
    cases b with
    | true => exact l_cons (he.st (by simpa using h2)) ih (star_of (no_star h1))
    | false => exact l_consW he.we ih (star_of (no_star h1))
end
end
end LC

set_option Elab.async false
set_option linter.all false
set_option maxRecDepth 100000
set_option maxHeartbeats 4000000
/-! LC: the checker of statements -/
namespace LC
open PySem PySem.Spec PyProof.Rows L2

def chkT (p : Pg) (N : List Str) (M : List Nat) (sc : Scope) : E → Expr → Bool
  | .not a, e => match e with
    | .UnaryOp .Not x _ => chkT p N M sc a x
    | _ => false
  | .and a b, e => match e with
    | .BoolOp .And [x, y] _ => chkT p N M sc a x && chkT p N M sc b y
    | .BoolOp .And [x, y, z] _ => chkT p N M sc a x && (match b with
      | .and b c => chkT p N M sc b y && chkT p N M sc c z
      | _ => false)
    | .BoolOp .And [x, y, z, u] _ => chkT p N M sc a x && (match b with
      | .and b (.and c d) => chkT p N M sc b y && chkT p N M sc c z && chkT p N M sc d u
      | _ => false)
    | _ => false
  | .or a b, e => match e with
    | .BoolOp .Or [x, y] _ => chkT p N M sc a x && chkT p N M sc b y
    | .BoolOp .Or [x, y, z] _ => chkT p N M sc a x && (match b with
      | .or b c => chkT p N M sc b y && chkT p N M sc c z
      | _ => false)
    | .BoolOp .Or [x, y, z, u] _ => chkT p N M sc a x && (match b with
      | .or b (.or c d) => chkT p N M sc b y && chkT p N M sc c z && chkT p N M sc d u
      | _ => false)
    | _ => false
  | .cmp o a b, e => match e with
    | .Compare x [op] [y] _ => op == o && !behindInMarks op y && chkE p N M sc a x && chkE p N M sc b y
    | _ => false
  | .kin neg a' x, e => chkE p N M sc (.kin neg a' x) e
  | e', e => plainT e && chkE p N M sc e' e
section
variable {p : Pg} {n : Nat} {N : List Str} {M : List Nat}
theorem plain_ok {sc : Scope} {X : Cx} {e : Expr} {e' : E} (h : Cok p n N sc X) (hc : (plainT e && chkE p N M sc e' e) = true) : PT X e (tT (cfOf p n) X.K M e') := by
  rw [Bool.and_eq_true] at hc
  exact l_truth (chkE_ok e' sc X e h hc.2).we (isTrue_plain_of hc.1)
theorem chkT_ok {sc : Scope} {X : Cx} (h : Cok p n N sc X) : ∀ (e' : E) (e : Expr), chkT p N M sc e' e = true → PT X e (tT (cfOf p n) X.K M e')
  | .not a, e, hc => by
    unfold chkT at hc
    split at hc
    · exact l_notT (chkT_ok h a _ hc)
    · exact nomatch hc
  | .and a b, e, hc => by
    unfold chkT at hc
    split at hc
    · rw [Bool.and_eq_true] at hc
      exact (l_andT (chkT_ok h a _ hc.1) (pw_and1 (chkT_ok h b _ hc.2))).pt
    · rw [Bool.and_eq_true] at hc
      obtain ⟨h1, hc⟩ := hc
      split at hc
      · rename_i b1 b2
        rw [Bool.and_eq_true] at hc
        exact (l_andT (chkT_ok h a _ h1) (l_andT (chkT_ok h b1 _ hc.1) (pw_and1 (chkT_ok h b2 _ hc.2)))).pt
      · exact nomatch hc
    · rw [Bool.and_eq_true] at hc
      obtain ⟨h1, hc⟩ := hc
      split at hc
      · rename_i b1 b2 b3
        rw [Bool.and_eq_true, Bool.and_eq_true] at hc
        exact (l_andT (chkT_ok h a _ h1) (l_andT (chkT_ok h b1 _ hc.1.1) (l_andT (chkT_ok h b2 _ hc.1.2) (pw_and1 (chkT_ok h b3 _ hc.2))))).pt
      · exact nomatch hc
    · exact nomatch hc
  | .or a b, e, hc => by
    unfold chkT at hc
    split at hc
    · rw [Bool.and_eq_true] at hc
      exact (l_orT (chkT_ok h a _ hc.1) (pw_or1 (chkT_ok h b _ hc.2))).pt
    · rw [Bool.and_eq_true] at hc
      obtain ⟨h1, hc⟩ := hc
      split at hc
      · rename_i b1 b2
        rw [Bool.and_eq_true] at hc
        exact (l_orT (chkT_ok h a _ h1) (l_orT (chkT_ok h b1 _ hc.1) (pw_or1 (chkT_ok h b2 _ hc.2)))).pt
      · exact nomatch hc
    · rw [Bool.and_eq_true] at hc
      obtain ⟨h1, hc⟩ := hc
      split at hc
      · rename_i b1 b2 b3
        rw [Bool.and_eq_true, Bool.and_eq_true] at hc
        exact (l_orT (chkT_ok h a _ h1) (l_orT (chkT_ok h b1 _ hc.1.1) (l_orT (chkT_ok h b2 _ hc.1.2) (pw_or1 (chkT_ok h b3 _ hc.2))))).pt
      · exact nomatch hc
    · exact nomatch hc
  | .cmp o a b, e, hc => by
    unfold chkT at hc
    split at hc
    · simp only [Bool.and_eq_true] at hc
      obtain ⟨⟨⟨g1, g2⟩, g3⟩, g4⟩ := hc
      have ho := eq_of_beq g1
      subst ho
      exact l_cmpT (opp_cmp (units_of h.room) _) (chkE_ok a sc X _ h g3).we (chkE_ok b sc X _ h g4).we (by simpa using g2) fun _ _ _ => dCmp_bl
    · exact nomatch hc
  | .kin neg a' x, e, hc => by
    unfold chkT chkE at hc
    split at hc
    · simp only [Bool.and_eq_true] at hc
      obtain ⟨⟨⟨⟨⟨h1, h2⟩, h3⟩, h4⟩, h5⟩, h6⟩ := hc
      have ho := eq_of_beq h1
      have hx := eq_of_beq h2
      subst ho hx
      obtain ⟨kvs, hk⟩ := Option.isSome_iff_exists.mp h5
      obtain ⟨dd, es, m, g1, g2, g3⟩ := h.dct _ kvs hk
      exact l_kinT (chkE_ok a' sc X _ h h6).we (h.gl h3) g1 g2 hk g3 (nm_of h4).1
    · exact nomatch hc
  | .var _, e, hc => plain_ok h hc
  | .mth _ _ _, e, hc => plain_ok h hc
  | .rpl _ _ _, e, hc => plain_ok h hc
  | .kget _ _, e, hc => plain_ok h hc
  | .sst _, e, hc => plain_ok h hc
  | .lss _, e, hc => plain_ok h hc
  | .cst _, e, hc => plain_ok h hc
  | .glb _, e, hc => plain_ok h hc
  | .bin _ _ _, e, hc => plain_ok h hc
  | .neg _, e, hc => plain_ok h hc
  | .chn _ _ _ _ _, e, hc => plain_ok h hc
  | .idx _ _, e, hc => plain_ok h hc
  | .cut _ _ _ _ _, e, hc => plain_ok h hc
  | .stp _ _, e, hc => plain_ok h hc
  | .tup _, e, hc => plain_ok h hc
  | .lst _, e, hc => plain_ok h hc
  | .call _ _, e, hc => plain_ok h hc
  | .bi _ _, e, hc => plain_ok h hc
  | .isi _ _, e, hc => plain_ok h hc
  | .lc _ _ _ _ _ _, e, hc => plain_ok h hc
end
/-- how x = e stores: none: as ever; a comprehension: whether it is swapped -/
def swp (sc : Scope) (x : Str) (px : Pos) : Expr → Option Bool
  | .ListComp _ _ scope pos => some (sc.names.lookup x == some .local && px.line == pos.line && !(scope.names.any fun (n, k) => n == x && (k == .local || k == .cell)))
  | .SetComp _ _ _ _ => some false
  | .DictComp _ _ _ _ _ => some false
  | _ => none
theorem sw_none {sc : Scope} {x : Str} {px : Pos} {e : Expr} {t : Option Expr} {l : Nat} {env : Env} (h : swp sc x px e = none) : swapsWith e t l env = pure false := by
  cases e <;> first
    | rfl
    | exact nomatch h
theorem sw_eq {elt : Expr} {gs : List Comprehension} {scope : Scope} {pos py : Pos} {y : Str} {l : Nat} {env : Env} (hk : env.scope.kind = .function) :
    swapsWith (.ListComp elt gs scope pos) (some (.Name y py)) l env = pure (env.kindOf y == some .local && py.line == pos.line && !(scope.names.any fun (n, k) => n == y && (k == .local || k == .cell))) := by
  have hb : env.blockKind = .function := by unfold Env.blockKind; rw [hk]; rfl
  unfold swapsWith
  simp only [hb, Expr.pos]
  rfl
theorem sole_tup {es : List Expr} {k : Nat} {q : Pos} {e : Expr} {l : Nat} {env : Env} : swapsWithSole [.Tuple es k q] e l env = pure false := by
  cases e <;> rfl
theorem stores_none {es : List Expr} {k : Nat} {q : Pos} {e : Expr} {env : Env} (h : isTupE e = false) : swappedStores [.Tuple es k q] e env = pure none := by
  cases e <;> first
    | rfl
    | exact nomatch h
theorem sole_sub {o i : Expr} {q : Pos} {e : Expr} {l : Nat} {env : Env} : swapsWithSole [.Subscript o i q] e l env = pure false := by
  cases e <;> rfl
theorem stores_sub {o i : Expr} {q : Pos} {e : Expr} {env : Env} : swappedStores [.Subscript o i q] e env = pure none := by
  cases e <;> rfl

def forOk (p : Pg) (N : List Str) (sc : Scope) (M : List Nat) (tg : Expr) (tg' : Tg) (iter : Expr) (k : Src) (ss : List E) : Bool := chkTg N sc true M tg tg' && srcOk sc tg k && (match srcArgs k iter with
  | some as => chkEs p N M true sc ss as
  | none => false)
def nstOk (p : Pg) (N : List Str) (sc : Scope) (M : List Nat) (i : Nat) (tg' : Tg) (k : Src) (ss : List E) (cond e : E) : Stmt → Stmt → Bool
  | .Assign [.Name x _] (.List [.List [] _] _) _, .For tg iter [.If ce [.Expr (.Call (.Attribute (.Name x1 _) n1 a1) [.List [] _] [] c1) _] [.Expr (.Call (.Attribute (.Subscript (.Name x2 _) (.UnaryOp .USub (.Constant (.int 1) _ _) _) _) n2 a2) [ee] [] c2) _] _] [] _ =>
    N[i]? == some x && isLoc sc x && isVis sc x && nmOk x && x1 == x && x2 == x && n1 == ("append" : Str) && n2 == ("append" : Str) && a1.endLine == c1.line && a2.endLine == c2.line && !(slots tg').contains i && forOk p N sc M tg tg' iter k ss && chkT p N M sc cond ce && chkE p N M sc e ee && !wk M e
  | _, _ => false
mutual
def chkS (p : Pg) (N : List Str) (sc : Scope) : List Nat → S → Stmt → Option (List Nat)
  | M, .set i e', st => match st with
    | .Assign [.Name x px] e _ => if N[i]? == some x && isLoc sc x && chkE p N M sc e' e && !wk M e' then some (wo M i) else none
    | _ => none
  | M, .own i e', st => match st with
    | .Assign [.Name x px] e _ => if N[i]? == some x && isLoc sc x && chkE p N M sc e' e && isFresh e' then some (i :: wo M i) else none
    | _ => none
  | M, .unp is e', st => match st with
    | .Assign [.Tuple es _ _] e _ => if chkNames N sc true M es is && chkE p N M sc e' e && !wk M e' && !isTupE e then some M else none
    | _ => none
  | M, .app i e', st => match st with
    | .Expr (.Call (.Attribute (.Name x _) at_ apos) [e] [] cpos) _ => if at_ == ("append" : Str) && N[i]? == some x && isVis sc x && nmOk x && M.contains i && apos.endLine == cpos.line && chkE p N M sc e' e && !wk M e' then some M else none
    | _ => none
  | M, .ext i e', st => match st with
    | .Expr (.Call (.Attribute (.Name x _) at_ apos) [e] [] cpos) _ => if at_ == ("extend" : Str) && N[i]? == some x && isVis sc x && nmOk x && M.contains i && apos.endLine == cpos.line && chkE p N M sc e' e && isFresh e' then some M else none
    | _ => none
  | M, .put i k' e', st => match st with
    | .Assign [.Subscript (.Name x _) k _] e _ => if noSlice k && N[i]? == some x && isVis sc x && nmOk x && M.contains i && chkE p N M sc k' k && chkE p N M sc e' e && !wk M e' then some M else none
    | _ => none
  | _, .frz _, _ => none
  | M, .ife c a b, st => match st with
    | .If e x y _ => if chkT p N M sc c e then match chkSs p N sc M a x, chkSs p N sc M b y with
      | some ma, some mb => some (ma.filter fun i => mb.contains i)
      | _, _ => none
      else none
    | _ => none
  | M, .for_ tg' k ss body', st => match st with
    | .For tg iter body [] _ => if forOk p N sc M tg tg' iter k ss then match chkSs p N sc M body' body with
      | some mb => if M.all (fun i => mb.contains i) then some M else none
      | none => none
      else none
    | _ => none
  | M, .whl c body', st => match st with
    | .While e body [] _ => if chkT p N M sc c e then match chkSs p N sc M body' body with
      | some mb => if M.all (fun i => mb.contains i) then some M else none
      | none => none
      else none
    | _ => none
  | M, .ret e', st => match st with
    | .Return (some e) _ => if chkE p N M sc e' e && !wk M e' then some M else none
    | _ => none
  | M, .pas, st => match st with
    | .Pass _ => some M
    | _ => none
  | M, .rse _, st => match st with
    | .Raise _ _ _ => some M
    | _ => none
  | _, .nst _ _ _ _ _ _, _ => none
  | _, .told _ _ _, _ => none
def chkSs (p : Pg) (N : List Str) (sc : Scope) : List Nat → List S → List Stmt → Option (List Nat)
  | M, [], sts => if sts.isEmpty then some M else none
  | M, s :: ss, sts => match s with
    | .frz i => chkSs p N sc (wo M i) ss sts
    | .nst i tg' k es cond e => match sts with
      | st1 :: st2 :: sts => if nstOk p N sc (wo M i) i tg' k es cond e st1 st2 then chkSs p N sc (wo M i) ss sts else none
      | _ => none
    | _ => match sts with
      | st :: sts => match chkS p N sc M s st with
        | some M1 => chkSs p N sc M1 ss sts
        | none => none
      | [] => none
end
end LC

set_option Elab.async false
set_option linter.all false
set_option maxRecDepth 100000
set_option maxHeartbeats 4000000
/-! LC: the checker of statements is right; defs -/
namespace LC
open PySem PySem.Spec PyProof.Rows L2
section
variable {p : Pg} {n : Nat} {N : List Str}
theorem opt_if {α : Type} {c : Prop} [Decidable c] {a b : α} (h : (if c then some a else none) = some b) : c ∧ a = b := by
  by_cases hc : c
  · rw [if_pos hc] at h
    exact ⟨hc, Option.some.inj h⟩
  · rw [if_neg hc] at h
    exact nomatch h
/-- x = e by its name's slot -/
theorem asg_name {sc : Scope} {X : Cx} (h : Cok p n N sc X) (hk : sc.kind = .function) (hf : ∀ x, X.fn x = true) {i : Nat} {x : Str} {px pos : Pos} {e : Expr} {te : TE} (h1 : N[i]? = some x) (h2 : isLoc sc x = true) (he : PE X e te)
    (hl : ∀ elt tg iter ifs scope q, e = .ListComp elt [⟨tg, iter, ifs, 0⟩] scope q → swp sc x px e = some true → PS X (.Assign [.Name x px] e pos) (tAsg te (gName i))) (hcomp : ∀ b, swp sc x px e = some b → ∃ elt tg iter ifs scope q, e = .ListComp elt [⟨tg, iter, ifs, 0⟩] scope q) :
    PS X (.Assign [.Name x px] e pos) (tAsg te (gName i)) := by
  have hN : X.N.Nodup := by rw [h.names]; exact h.nd
  have hi : X.N[i]? = some x := by rw [h.names]; exact h1
  have hx : Loc X.env.scope x := by rw [h.scope]; exact loc_of h2
  cases hs : swp sc x px e with
  | none => exact ps_set hN hi hx he (sw_none hs) (.inl (hf x))
  | some b =>
    obtain ⟨elt, tg, iter, ifs, scope, q, rfl⟩ := hcomp b hs
    cases b with
    | true => exact hl _ _ _ _ _ _ rfl hs
    | false =>
      refine ps_set hN hi hx he ?_ (.inl (hf x))
      rw [sw_eq (by rw [h.scope]; exact hk)]
      have hs' : (sc.names.lookup x == some .local && px.line == q.line && !(scope.names.any fun (n, k) => n == x && (k == .local || k == .cell))) = false := Option.some.inj hs
      unfold Env.kindOf
      rw [h.scope, hs']
theorem comp_shape {M : List Nat} {sc : Scope} {x : Str} {px : Pos} {e : Expr} {e' : E} (hc : chkE p N M sc e' e = true) : ∀ b, swp sc x px e = some b → ∃ elt tg iter ifs scope q, e = .ListComp elt [⟨tg, iter, ifs, 0⟩] scope q := fun b hb => by
  cases e with
  | ListComp elt gs scope q =>
    cases e' with
    | lc own tg' k ss cond elt' =>
      unfold chkE at hc
      split at hc
      · rename_i ia _ _ heq
        simp only [Bool.and_eq_true] at hc
        have hia := eq_of_beq hc.1.1.1.1.1.1.1.1.1
        subst hia
        cases heq
        exact ⟨_, _, _, _, _, _, rfl⟩
      · exact nomatch hc
    | _ => unfold chkE at hc; exact nomatch hc
  | SetComp elt gs scope q => cases e' <;> simp [chkE] at hc
  | DictComp k v gs scope q => cases e' <;> simp [chkE] at hc
  | _ => exact nomatch hb
/-- y = [..], swapped -/
theorem lc_set {sc : Scope} {X : Cx} {M : List Nat} (h : Cok p n N sc X) (hk : sc.kind = .function) {i : Nat} {x : Str} {px spos : Pos} {elt tg iter : Expr} {ifs : List Expr} {scope : Scope} {q : Pos} {e' : E} (h1 : N[i]? = some x)
    (hc : chkE p N M sc e' (.ListComp elt [⟨tg, iter, ifs, 0⟩] scope q) = true) (hs : swp sc x px (.ListComp elt [⟨tg, iter, ifs, 0⟩] scope q) = some true) :
    PS X (.Assign [.Name x px] (.ListComp elt [⟨tg, iter, ifs, 0⟩] scope q) spos) (tAsg (tF (cfOf p n) X.K M e') (gName i)) := by
  cases e' with
  | lc own tg' k ss cond elt' =>
    unfold chkE at hc
    simp only [Bool.and_eq_true] at hc
    obtain ⟨⟨⟨⟨⟨⟨⟨⟨⟨_, h2⟩, h3⟩, h4⟩, h5⟩, h6⟩, h7⟩, h8⟩, h9⟩, h10⟩ := hc
    split at h7
    · rename_i as hs7
      have hpa : PA X as (tWs (cfOf p n) X.K M ss) := chkEs_ok ss false sc X _ h h7
      have hi : PI X tg iter (tI false (cfOf p n) X.K M k ss) := src_ok h h6 hs7 h7 hpa fun e0 e0' ea es0 => by
        subst ea es0
        rw [chkEs, Bool.and_eq_true, Bool.and_eq_true] at h7
        exact (chkE_ok e0' sc X _ h h7.1.1).we
      have hown : ∀ i ∈ own, i ∉ M := fun i hi z => by
        have := List.all_eq_true.mp h3 i hi
        rw [List.contains_iff_mem.mpr z] at this
        exact nomatch this
      have hsl : ∀ i ∈ slots tg', i ∈ own := fun i hi => List.contains_iff_mem.mp (List.all_eq_true.mp h4 i hi)
      have ht : ∀ (s : Shared) (H : Hp) (C : Addr) (cl : List (Str × Addr)) (fp : List Addr), PTs (X.blk s H scope (compEnvC scope cl C X.env) fp) ifs (tT (cfOf p n) X.K M cond) := fun s H C cl fp => by
        have hb := h.blk s H scope C cl fp
        split at h8
        · exact ⟨fun pins s σ H Q I ⟨O, ρ, d, b, o, ee, et, q⟩ => by
            rw [ev] at ee
            cases ee
            cases et
            exact pts_nil.run pins s σ H Q I (q H (Same.refl H))⟩
        · rw [Bool.and_eq_true] at h8
          rename_i x _ a
          exact pts_one (l_notT (l_truth (chkE_ok a _ _ _ hb h8.2).we (isTrue_plain_of h8.1)))
        · rename_i a op b _ o a' b'
          simp only [Bool.and_eq_true] at h8
          obtain ⟨⟨⟨g1, g2⟩, g3⟩, g4⟩ := h8
          have ho := eq_of_beq g1
          subst ho
          exact pts_one (l_cmpT (opp_cmp (units_of hb.room) _) (chkE_ok a' _ _ _ hb g3).we (chkE_ok b' _ _ _ hb g4).we (by simpa using g2) fun _ _ _ => dCmp_bl)
        · exact nomatch h8
      have hblk : BlkOk X.N X.env.scope scope (own.map fun i => (N.getD i ("" : Str), i)) := by
        rw [h.names, h.scope]
        exact blkOk_by h2
      have hs' : (sc.names.lookup x == some .local && px.line == q.line && !(scope.names.any fun (n, k) => n == x && (k == .local || k == .cell))) = true := Option.some.inj hs
      have hlx : sc.names.lookup x = some .local := by
        rw [Bool.and_eq_true, Bool.and_eq_true] at hs'
        exact eq_of_beq hs'.1.1
      have hsw : swapsWith (.ListComp elt [⟨tg, iter, ifs, 0⟩] scope q) (some (.Name x px)) spos.line X.env = pure true := by
        rw [sw_eq (by rw [h.scope]; exact hk)]
        unfold Env.kindOf
        rw [h.scope, hs']
      have key := ps_setLc (i := i) (spos := spos) (g := tG X.K M tg') (tt := tT (cfOf p n) X.K M cond) (te := tE (cfOf p n) X.K M elt') h.calm (by rw [h.names]; exact h.nd) (by rw [h.names]; exact h1) (by rw [h.scope]; exact hlx) hsw hi hblk (fun s H C cl fp => (tg_ok (h.blk s H scope C cl fp) (Cok.fnb s H C cl fp) h5).1) ht (fun s H C cl fp => (chkE_ok elt' _ _ _ (h.blk s H scope C cl fp) h9).st (wk_not h10)) (noFold hs7 h7)
      rw [blkNames] at key
      exact ps_imp key fun Dn σ H hh => lc_read hown hsl hh
    · exact nomatch h7
  | _ => unfold chkE at hc; exact nomatch hc
theorem set_asg {sc : Scope} {X : Cx} {M : List Nat} (h : Cok p n N sc X) (hk : sc.kind = .function) (hf : ∀ x, X.fn x = true) {i : Nat} {x : Str} {px pos : Pos} {e : Expr} {e' : E} (h1 : N[i]? = some x) (h2 : isLoc sc x = true) (hc : chkE p N M sc e' e = true) (hw : wk M e' = false) :
    PS X (.Assign [.Name x px] e pos) (tAsg (tE (cfOf p n) X.K M e') (gName i)) :=
  asg_name h hk hf h1 h2 ((chkE_ok e' sc X e h hc).st hw) (fun elt tg iter ifs scope q heq hs => by
    subst heq
    have hlst : ∀ ρ d, ev (cfOf p n) e' ρ = .ok d → ∃ ds, d = .lst ds := by
      cases e' with
      | lc own tg' k ss cond elt' => exact lc_lst
      | _ => unfold chkE at hc; exact nomatch hc
    exact ps_imp (lc_set h hk h1 hc hs) fun Dn σ H hh => tF_of hlst hh) (comp_shape hc)
theorem own_asg {sc : Scope} {X : Cx} {M : List Nat} (h : Cok p n N sc X) (hk : sc.kind = .function) (hf : ∀ x, X.fn x = true) {i : Nat} {x : Str} {px pos : Pos} {e : Expr} {e' : E} (h1 : N[i]? = some x) (h2 : isLoc sc x = true) (hc : chkE p N M sc e' e = true) (hw : isFresh e' = true) :
    PS X (.Assign [.Name x px] e pos) (tAsg (tF (cfOf p n) X.K M e') (gName i)) :=
  asg_name h hk hf h1 h2 ((chkE_ok e' sc X e h hc).fr hw) (fun elt tg iter ifs scope q heq hs => by
    subst heq
    exact lc_set h hk h1 hc hs) (comp_shape hc)
theorem attr_base {o : Expr} {name : Str} {env : Env} (h : ∀ f as ks q, o ≠ .Call f as ks q) : attributeBase o name env (eval o env) = eval o env := by
  cases o <;> first
    | rfl
    | exact absurd rfl (h _ _ _ _)
theorem contains_mem {M : List Nat} {i : Nat} (h : M.contains i = true) : i ∈ M := List.contains_iff_mem.mp h
theorem meth_pe {sc : Scope} {X : Cx} (h : Cok p n N sc X) {x name : Str} {i : Nat} {q apos cpos : Pos} {e : Expr} {te : TE} {id : String} {r : V → List V → Hp → VK → Prop} (slot : Slot "list" name id) (hty : typeOf (.builtin id) = pure (.type "method_descriptor")) (hm : MtR X id r)
    (h1 : N[i]? = some x) (h2 : isVis sc x = true) (h3 : nmOk x = true) (hl : (apos.endLine == cpos.line) = true) (he : PE X e te) (hst : starEach [e] X.env = [(false, eval e X.env)]) :
    PE X (.Call (.Attribute (.Name x q) name apos) [e] [] cpos) (tBM X.K "list" r (tVar i) (tCons te tNil)) := by
  obtain ⟨n1, n2, _⟩ := nm_of h3
  exact pe_bm PySem.F.plainAttrs_list slot hty hm (pe_var (by rw [h.names]; exact h1) (h.vis h2) n1 n2) (pa_cons he pa_nil hst) rfl (by rw [hst]; rfl) hl hst rfl
theorem asg_sub {o k : Expr} {q : Pos} {env : Env} (h : noSlice k = true) : ∀ v, assign (.Subscript o k q) env v = (do
      let ov ← holding [v] (eval o env)
      let iv ← holding [v, ov] (eval k env)
      standAt q
      holding [v, ov, iv] (setItem ov iv v)
      release [v, ov, iv] []) := by
  intro v
  cases k <;> first
    | rfl
    | exact nomatch h
theorem drop_call {f : Expr} {as : List Expr} {ks : List Keyword} {q : Pos} {l : Nat} {env : Env} : swapsWith (.Call f as ks q) none l env = pure false := rfl
theorem nst_ok {sc : Scope} {X : Cx} {M : List Nat} (h : Cok p n N sc X) (hk : sc.kind = .function) (hf : ∀ x, X.fn x = true) (hp : PassesOwn (model X.prog X.w) X.A X.env X.xe) {i : Nat} {tg' : Tg} {k : Src} {es : List E} {cond e : E} {st1 st2 : Stmt} (hc : nstOk p N sc M i tg' k es cond e st1 st2 = true) :
    (i ∉ slots tg') ∧ (∀ j ∈ slots tg', j ∉ M) ∧ PS X st1 (tAsg (tLst (tCons (tLst tNil) tNil)) (gName i)) ∧ PS X st2 (tFor (tI true (cfOf p n) X.K M k es) (tG X.K M tg') (tIfS (tT (cfOf p n) X.K M cond) (tNA X.K i) (tNB (cfOf p n) X.K M i e))) := by
  unfold nstOk at hc
  split at hc
  · simp only [Bool.and_eq_true] at hc
    obtain ⟨⟨⟨⟨⟨⟨⟨⟨⟨⟨⟨⟨⟨⟨h1, h2⟩, h3⟩, h4⟩, h5⟩, h6⟩, h7⟩, h8⟩, h9⟩, h10⟩, h11⟩, h12⟩, h13⟩, h14⟩, h15⟩ := hc
    have q5 := eq_of_beq h5
    have q6 := eq_of_beq h6
    have q7 := eq_of_beq h7
    have q8 := eq_of_beq h8
    subst q5 q6 q7 q8
    obtain ⟨n1, n2, _⟩ := nm_of h4
    have hN' := eq_of_beq h1
    have hN := (congrArg (fun l : List Str => l[i]?) h.names).trans hN'
    have hv := h.vis h3
    unfold forOk at h12
    simp only [Bool.and_eq_true] at h12
    obtain ⟨⟨w1, w2⟩, w3⟩ := h12
    split at w3
    · rename_i as hs
      obtain ⟨g1, g2⟩ := tg_ok (top := true) h (fun x _ _ => .inl (hf x)) w1
      have hpa := chkEs_ok es true sc X _ h w3
      have hi := src_ok (b := true) h w2 hs w3 hpa fun e0 e0' ea es0 => by
        subst ea es0
        rw [chkEs, Bool.and_eq_true, Bool.and_eq_true] at w3
        exact (chkE_ok e0' sc X _ h w3.1.1).st (by simpa using w3.1.2)
      refine ⟨fun z => ?_, g2, ps_set (by rw [h.names]; exact h.nd) hN (by rw [h.scope]; exact loc_of h2) (pe_lst (pa_cons (pe_lst pa_nil) pa_nil rfl)) rfl (.inl (hf _)), ?_⟩
      · rw [List.contains_iff_mem.mpr z] at h11
        exact nomatch h11
      · have hst := star_of (as := []) (env := X.env) (no_star h14)
        refine ps_for hp h.calm hi g1 (pss_one (ps_if (chkT_ok h cond _ h13) (pss_one ?_) (pss_one ?_))) (noFold hs w3)
        · exact ps_expr (meth_pe h PySem.F.slot_list_append PySem.F.type_list_append mt_append (eq_of_beq h1) h3 h4 h9 (pe_lst pa_nil) rfl) drop_call
        · exact ps_expr (pe_bm PySem.F.plainAttrs_list PySem.F.slot_list_append PySem.F.type_list_append mt_append (pe_ix ix_list (pe_var hN hv n1 n2) (pe_imp (pe_un un_neg pe_int) fun σ H Q q => ⟨1, rfl, q⟩) (plainIx_of rfl)) (pa_cons ((chkE_ok e sc X _ h h14).st (wk_not h15)) pa_nil hst) rfl (by rw [hst]; rfl) h10 hst rfl) drop_call
    · exact nomatch w3
  · exact nomatch hc
mutual
theorem chkS_ok {sc : Scope} {X : Cx} (h : Cok p n N sc X) (hk : sc.kind = .function) (hf : ∀ x, X.fn x = true) (hp : PassesOwn (model X.prog X.w) X.A X.env X.xe) :
    ∀ (s : S) (M M' : List Nat) (st : Stmt), chkS p N sc M s st = some M' → PS X st (tS (cfOf p n) p.wf X.K M M' s)
  | .set i e', M, M', st, hc => by
    unfold chkS at hc
    split at hc
    · obtain ⟨hh, rfl⟩ := opt_if hc
      simp only [Bool.and_eq_true] at hh
      obtain ⟨⟨⟨h1, h2⟩, h3⟩, h4⟩ := hh
      exact s_set_of (set_asg h hk hf (eq_of_beq h1) h2 h3 (wk_not h4))
    · exact nomatch hc
  | .own i e', M, M', st, hc => by
    unfold chkS at hc
    split at hc
    · obtain ⟨hh, rfl⟩ := opt_if hc
      simp only [Bool.and_eq_true] at hh
      obtain ⟨⟨⟨h1, h2⟩, h3⟩, h4⟩ := hh
      exact s_own (own_asg h hk hf (eq_of_beq h1) h2 h3 h4)
    · exact nomatch hc
  | .unp is e', M, M', st, hc => by
    unfold chkS at hc
    split at hc
    · obtain ⟨hh, rfl⟩ := opt_if hc
      simp only [Bool.and_eq_true] at hh
      obtain ⟨⟨⟨h1, h2⟩, h3⟩, h4⟩ := hh
      obtain ⟨g1, g2, g3, g4⟩ := names_ok (top := true) h (fun x _ _ => .inl (hf x)) h1
      exact s_unp g4 (ps_asg ((chkE_ok e' sc X _ h h2).st (wk_not h3)) (pg_or (pg_tup h.calm g1 g2 g3) (pg_unl h.calm g1 g2 g3)) sole_tup (stores_none (by simpa using h4)) rfl)
    · exact nomatch hc
  | .app i e', M, M', st, hc => by
    unfold chkS at hc
    split at hc
    · obtain ⟨hh, rfl⟩ := opt_if hc
      simp only [Bool.and_eq_true] at hh
      obtain ⟨⟨⟨⟨⟨⟨⟨h1, h2⟩, h3⟩, h4⟩, h5⟩, h6⟩, h7⟩, h8⟩ := hh
      have ha := eq_of_beq h1
      subst ha
      have hst := star_of (as := []) (env := X.env) (no_star h7)
      exact s_app (contains_mem h5) (ps_expr (meth_pe h PySem.F.slot_list_append PySem.F.type_list_append mt_append (eq_of_beq h2) h3 h4 h6 ((chkE_ok e' sc X _ h h7).st (wk_not h8)) hst) drop_call)
    · exact nomatch hc
  | .ext i e', M, M', st, hc => by
    unfold chkS at hc
    split at hc
    · obtain ⟨hh, rfl⟩ := opt_if hc
      simp only [Bool.and_eq_true] at hh
      obtain ⟨⟨⟨⟨⟨⟨⟨h1, h2⟩, h3⟩, h4⟩, h5⟩, h6⟩, h7⟩, h8⟩ := hh
      have ha := eq_of_beq h1
      subst ha
      have hst := star_of (as := []) (env := X.env) (no_star h7)
      exact s_ext (contains_mem h5) (ps_expr (meth_pe h PySem.F.slot_list_extend PySem.F.type_list_extend mt_extend (eq_of_beq h2) h3 h4 h6 ((chkE_ok e' sc X _ h h7).fr h8) hst) drop_call)
    · exact nomatch hc
  | .put i k' e', M, M', st, hc => by
    unfold chkS at hc
    split at hc
    · obtain ⟨hh, rfl⟩ := opt_if hc
      simp only [Bool.and_eq_true] at hh
      obtain ⟨⟨⟨⟨⟨⟨⟨h1, h2⟩, h3⟩, h4⟩, h5⟩, h6⟩, h7⟩, h8⟩ := hh
      obtain ⟨n1, n2, _⟩ := nm_of h4
      exact s_put (contains_mem h5) (ps_asg ((chkE_ok e' sc X _ h h7).st (wk_not h8)) (pg_sub (pe_var (by rw [h.names]; exact eq_of_beq h2) (h.vis h3) n1 n2) (chkE_ok k' sc X _ h h6).we set_list (asg_sub h1)) sole_sub stores_sub rfl)
    · exact nomatch hc
  | .frz i, M, M', st, hc => by
    unfold chkS at hc
    exact nomatch hc
  | .ife c a b, M, M', st, hc => by
    unfold chkS at hc
    split at hc
    · split at hc
      · rename_i ht
        split at hc
        · rename_i ma mb ha hb
          cases hc
          refine s_if (chkT_ok h c _ ht) (ss_weak ?_ (chkSs_ok h hk hf hp a M ma _ ha)) (ss_weak ?_ (chkSs_ok h hk hf hp b M mb _ hb))
          · intro j hj
            exact (List.mem_filter.mp hj).1
          · intro j hj
            exact contains_mem (List.mem_filter.mp hj).2
        · exact nomatch hc
      · exact nomatch hc
    · exact nomatch hc
  | .for_ tg' k ss body', M, M', st, hc => by
    unfold chkS at hc
    split at hc
    · split at hc
      · rename_i hh
        unfold forOk at hh
        simp only [Bool.and_eq_true] at hh
        obtain ⟨⟨h1, h2⟩, h3⟩ := hh
        split at hc
        · rename_i mb hb
          obtain ⟨hall, rfl⟩ := opt_if hc
          split at h3
          · rename_i as hs
            obtain ⟨g1, g2⟩ := tg_ok (top := true) h (fun x _ _ => .inl (hf x)) h1
            have hpa := chkEs_ok ss true sc X _ h h3
            have hi := src_ok (b := true) h h2 hs h3 hpa fun e0 e0' ea es0 => by
              subst ea es0
              rw [chkEs, Bool.and_eq_true, Bool.and_eq_true] at h3
              exact (chkE_ok e0' sc X _ h h3.1.1).st (by simpa using h3.1.2)
            exact s_for hp h.calm hi g1 (ss_weak (fun j hj => contains_mem (List.all_eq_true.mp hall j hj)) (chkSs_ok h hk hf hp body' M mb _ hb)) (noFold hs h3) g2
          · exact nomatch h3
        · exact nomatch hc
      · exact nomatch hc
    · exact nomatch hc
  | .whl c body', M, M', st, hc => by
    unfold chkS at hc
    split at hc
    · split at hc
      · rename_i ht
        split at hc
        · rename_i mb hb
          obtain ⟨hall, rfl⟩ := opt_if hc
          exact s_whl hp (chkT_ok h c _ ht) (ss_weak (fun j hj => contains_mem (List.all_eq_true.mp hall j hj)) (chkSs_ok h hk hf hp body' M mb _ hb))
        · exact nomatch hc
      · exact nomatch hc
    · exact nomatch hc
  | .ret e', M, M', st, hc => by
    unfold chkS at hc
    split at hc
    · obtain ⟨hh, rfl⟩ := opt_if hc
      rw [Bool.and_eq_true] at hh
      exact s_ret ((chkE_ok e' sc X _ h hh.1).st (wk_not hh.2))
    · exact nomatch hc
  | .pas, M, M', st, hc => by
    unfold chkS at hc
    split at hc
    · cases hc
      exact s_pas
    · exact nomatch hc
  | .nst _ _ _ _ _ _, M, M', st, hc => by
    unfold chkS at hc
    exact nomatch hc
  | .told _ _ _, M, M', st, hc => by
    unfold chkS at hc
    exact nomatch hc
  | .rse _, M, M', st, hc => ⟨fun pins s σ H Dn I ⟨O, G, ρ, f, o, ee, q⟩ => by
    rw [xs] at ee
    exact nomatch ee⟩
theorem chkSs_ok {sc : Scope} {X : Cx} (h : Cok p n N sc X) (hk : sc.kind = .function) (hf : ∀ x, X.fn x = true) (hp : PassesOwn (model X.prog X.w) X.A X.env X.xe) :
    ∀ (ss : List S) (M M' : List Nat) (sts : List Stmt), chkSs p N sc M ss sts = some M' → PSs X sts (tSs (cfOf p n) p.wf X.K M M' ss)
  | [], M, M', sts, hc => by
    unfold chkSs at hc
    obtain ⟨hh, rfl⟩ := opt_if hc
    rw [List.isEmpty_iff.mp hh]
    exact ss_nil
  | s :: ss, M, M', sts, hc => by
    unfold chkSs at hc
    split at hc
    · exact ss_frz wo_sub (chkSs_ok h hk hf hp ss _ M' sts hc)
    · split at hc
      · split at hc
        · rename_i hn
          obtain ⟨g1, g2, g3, g4⟩ := nst_ok h hk hf hp hn
          exact s_nst g1 g2 g3 g4 (chkSs_ok h hk hf hp ss _ M' _ hc)
        · exact nomatch hc
      · exact nomatch hc
    · split at hc
      · split at hc
        · rename_i M1 h1
          exact ss_cons (chkS_ok h hk hf hp s M M1 _ h1) (chkSs_ok h hk hf hp ss M1 M' _ hc)
        · exact nomatch hc
      · exact nomatch hc
end
end
end LC

set_option Elab.async false
set_option linter.all false
set_option maxRecDepth 100000
set_option maxHeartbeats 4000000
/-! LC: defs, the whole text -/
namespace LC
open PySem PySem.Spec PyProof.Rows L2
theorem run_len {p : Pg} {n : Nat} {f : Str} {fn : Fn} {ds : List D} {d : D} (hf : p.fns.lookup f = some fn) (h : run p (n + 1) f ds = .ok d) : ds.length = fn.np ∧ finish (xss ⟨p.glb, run p n, p.dct, runX p n⟩ p.wf fn.body (startR fn ds)) = .ok d := by
  rw [run_succ, hf] at h
  dsimp only at h
  by_cases hl : ds.length = fn.np
  · rw [if_pos hl] at h
    exact ⟨hl, h⟩
  · rw [if_neg hl] at h
    exact nomatch h
theorem ok_start {K : PySem.W.Frag} {O : Addr → Prop} {H : Hp} {fn : Fn} {ds : List D} {vs : List V} {N : List Str} (hO : ∀ b, O b → H b ≠ none) (r : RpL K O H ds vs) (hn : fn.ns = N.length) : OkS K O H [] (startR fn ds) (start N vs) H := by
  have hl := r.length
  have hav : Av O [] (start N vs) = O := by
    funext b
    apply propext
    constructor
    · rintro (z | ⟨i, hi, _⟩)
      · exact z
      · exact nomatch hi
    · exact .inl
  refine ⟨⟨hO, ?_, fun i e => ?_, fun i d e _ => ?_, (fun i d e m => nomatch m), (fun i j a hi => nomatch hi)⟩, Same.refl H, (fun i hi => nomatch hi)⟩
  · unfold L2.start startR
    rw [List.length_append, List.length_append, List.length_map, List.length_map, List.length_replicate, List.length_replicate, hl, hn]
  · unfold startR at e
    unfold L2.start
    by_cases hi : i < ds.length
    · rw [List.getElem?_append_left (by rw [List.length_map]; exact hi), List.getElem?_map, List.getElem?_eq_getElem hi] at e
      exact nomatch e
    · rw [List.getElem?_append_right (by rw [List.length_map]; omega), List.length_map] at e ⊢
      rw [← hl, ← hn]
      rw [List.getElem?_replicate] at e ⊢
      split at e
      · rename_i hlt
        rw [if_pos hlt]
      · exact nomatch e
  · unfold startR at e
    rw [hav]
    unfold L2.start
    by_cases hi : i < ds.length
    · rw [List.getElem?_append_left (by rw [List.length_map]; exact hi), List.getElem?_map] at e
      cases hd : ds[i]? with
      | none => rw [hd] at e; exact nomatch e
      | some d' =>
        rw [hd] at e
        cases e
        obtain ⟨v, hv, rv⟩ := r.get hd
        refine ⟨v, ?_, rv⟩
        rw [List.getElem?_append_left (by rw [List.length_map, ← hl]; exact hi), List.getElem?_map, hv]
        rfl
    · rw [List.getElem?_append_right (by rw [List.length_map]; omega), List.getElem?_replicate] at e
      split at e
      · exact nomatch e
      · exact nomatch e
section
variable {P : Program} {w : World} {K : PySem.W.Frag} {mg : Str → Option Value} {base : Heap} {p : Pg}
/-- one def, from the defs one level down -/
theorem fn_ok {n : Nat} {x qual : Str} {st : Stmt} {f : Addr} {fd : FuncData} {N ps : List Str} {fn : Fn} {M' : List Nat} (F : Fun K x qual st f fd) (S : FnScope N ps (defScope st)) (hfn : p.fns.lookup x = some fn) (hnp : fn.np = ps.length) (hns : fn.ns = N.length)
    (hc : chkSs p N (defScope st) [] fn.body (defBody st) = some M') (glb : ∀ x d, p.glb.lookup x = some d → ∃ v u, mg x = some u ∧ RelV v u ∧ ∀ O H, Rp K O H d v) (blt : ∀ x ∈ bltNames, mg x = none)
    (dct : ∀ x kvs, p.dct.lookup x = some kvs → DctOk K w mg x kvs) (rps : ∀ x y, (x, y) ∈ p.rps → RpsOk p mg x y)
    (fns : ∀ f fn, p.fns.lookup f = some fn → ∃ a fd ps, mg f = some (.ref a) ∧ PySem.W.keepIn K (.ref a) = true ∧ Binds K fd ps [] ∧ FnOk P w K mg base CX0 n a fd ps (spF K (run p n f))) :
    FnOk P w K mg base CX0 (n + 1) f fd ps (spF K (run p (n + 1) x)) := by
  refine F.ok S (fun vs H Q E hsp => ?_) (fun cdv A outer s H vs Q E hr hsp => ?_)
  · obtain ⟨O, ds, d, _, r, hrun, _⟩ := hsp
    rw [← r.length, (run_len hfn hrun).1, hnp]
  · obtain ⟨O, ds, d, hO, r, hrun, q⟩ := hsp
    obtain ⟨hl, hfin⟩ := run_len hfn hrun
    have ck : Cok p n N (defScope st) (cxOf CX0 P w K mg base N qual (defScope st) f cdv A outer s H E).nox := ⟨rfl, S.nd, rfl, rfl, hr, glb, blt, fns, dct, rps⟩
    refine ⟨_, chkSs_ok ck S.kind (fun _ => rfl) PassesOwn.never fn.body [] M' (defBody st) hc, ?_⟩
    cases hx : xss ⟨p.glb, run p n, p.dct, runX p n⟩ p.wf fn.body (startR fn ds) with
    | ok fl =>
      rw [hx] at hfin
      refine ⟨O, H, startR fn ds, fl, ok_start hO r hns, hx, ?_⟩
      cases fl with
      | nx ρ' =>
        cases hfin
        intro σ' H' o' _
        exact q .non H' o'.same rp_non
      | rt d' =>
        cases hfin
        exact fun v H' s' r' => q v H' s' r'
    | exc c =>
      rw [hx] at hfin
      exact nomatch hfin
    | bad =>
      rw [hx] at hfin
      exact nomatch hfin
/-- what the top has left of each def -/
structure Ent (K : PySem.W.Frag) (mg : Str → Option Value) (p : Pg) (f : Str) (fn : Fn) : Prop where
  ex : ∃ (st : Stmt) (a : Addr) (fd : FuncData) (ps N : List Str) (M' : List Nat), mg f = some (.ref a) ∧ Fun K f f st a fd ∧ FnScope N ps (defScope st) ∧ Binds K fd ps [] ∧ fn.np = ps.length ∧ fn.ns = N.length ∧ chkSs p N (defScope st) [] fn.body (defBody st) = some M'
theorem all_ok (ent : ∀ f fn, p.fns.lookup f = some fn → Ent K mg p f fn) (glb : ∀ x d, p.glb.lookup x = some d → ∃ v u, mg x = some u ∧ RelV v u ∧ ∀ O H, Rp K O H d v) (blt : ∀ x ∈ bltNames, mg x = none)
    (dct : ∀ x kvs, p.dct.lookup x = some kvs → DctOk K w mg x kvs) (rps : ∀ x y, (x, y) ∈ p.rps → RpsOk p mg x y) :
    ∀ (n : Nat) (f : Str) (fn : Fn), p.fns.lookup f = some fn → ∃ a fd ps, mg f = some (.ref a) ∧ PySem.W.keepIn K (.ref a) = true ∧ Binds K fd ps [] ∧ FnOk P w K mg base CX0 n a fd ps (spF K (run p n f))
  | 0, f, fn, hf => by
    obtain ⟨st, a, fd, ps, N, M', h1, h2, h3, h4, h5, h6, h7⟩ := (ent f fn hf).ex
    have no : ∀ vs H Q E, ¬ spF K (run p 0 f) vs H Q E := fun vs H Q E ⟨O, ds, d, _, _, hrun, _⟩ => by
      rw [run_zero] at hrun
      exact nomatch hrun
    exact ⟨a, fd, ps, h1, h2.kp, h4, ⟨fun vs H Q E z => absurd z (no vs H Q E), fun A outer s H args us vs Q E _ _ _ _ z => absurd z (no vs H Q E)⟩⟩
  | n + 1, f, fn, hf => by
    obtain ⟨st, a, fd, ps, N, M', h1, h2, h3, h4, h5, h6, h7⟩ := (ent f fn hf).ex
    exact ⟨a, fd, ps, h1, h2.kp, h4, fn_ok h2 h3 hf h5 h6 h7 glb blt dct rps (all_ok ent glb blt dct rps n)⟩
end
end LC

set_option Elab.async false
set_option linter.all false
set_option maxRecDepth 100000
set_option maxHeartbeats 4000000
/-! LC: the law's own promise -/
namespace LC
open PySem PySem.Spec PyProof.Rows L2
def isLstO (o : Obj) : Bool := match o.cls with
  | .type n => n == ("list" : Str)
  | _ => false
/-- no list among the objects of the top -/
def noLst : PySem.W.Frag → Bool
  | [] => true
  | (_, o) :: r => !isLstO o && noLst r
theorem lookup_mem {α β : Type} [BEq α] [LawfulBEq α] {x : α} {d : β} : ∀ {l : List (α × β)}, l.lookup x = some d → (x, d) ∈ l
  | [], h => nomatch h
  | (y, e) :: r, h => by
    rw [List.lookup_cons] at h
    cases hxy : x == y with
    | true =>
      rw [hxy] at h
      cases eq_of_beq hxy
      cases h
      exact List.mem_cons_self
    | false =>
      rw [hxy] at h
      exact List.mem_cons_of_mem _ (lookup_mem h)
theorem noLst_mem : ∀ {K : PySem.W.Frag} {a : Addr} {o : Obj}, noLst K = true → (a, o) ∈ K → isLstO o = false
  | [], _, _, _, m => nomatch m
  | (b, u) :: r, a, o, h, m => by
    rw [noLst, Bool.and_eq_true] at h
    rcases List.mem_cons.mp m with e | m
    · cases e
      simpa using h.1
    · exact noLst_mem h.2 m
theorem rd_of_noLst {K : PySem.W.Frag} {H : Hp} {a : Addr} {vs : List V} (hk : noLst K = true) (h : SqL K H a vs) : Rd H a (.lst vs) := by
  rcases h with h | ⟨o, its, n, h1, h2, _⟩
  · exact h
  · have h3 := noLst_mem hk (lookup_mem h1)
    unfold isLstO at h3
    rw [h2] at h3
    exact absurd h3 (by decide +kernel)
def spL (K : PySem.W.Frag) (p : Pg) (n : Nat) : Sp := fun vs H Q _ => ∃ (a : Addr) (ns : List Int), vs = [.ref a] ∧ SqL K H a (ns.map V.int) ∧ Only H ∧ run p n "law" [.lst (ns.map D.int)] = .ok (.bl true) ∧ ∀ H', Q (.bl true) H'
theorem rpl_ofInts {K : PySem.W.Frag} {O : Addr → Prop} {H : Hp} : ∀ ns : List Int, RpL K O H (ns.map D.int) (ns.map V.int)
  | [] => RpL.nil
  | n :: ns => RpL.cons (by rw [Rp]) (rpl_ofInts ns)
theorem fnok_law {P : Program} {w : World} {K : PySem.W.Frag} {mg : Str → Option Value} {base : Heap} {n : Nat} {f : Addr} {fd : FuncData} {ps : List Str} {p : Pg} (nl : noLst K = true) (F : FnOk P w K mg base CX0 n f fd ps (spF K (run p n "law"))) :
    FnOk P w K mg base CX0 n f fd ps (spL K p n) := by
  refine F.imp fun vs H Q E h => ?_
  obtain ⟨a, ns, rfl, hS, hO, hr, q⟩ := h
  refine ⟨fun _ => False, [.lst (ns.map D.int)], .bl true, fun _ z => z.elim, RpL.cons ?_ RpL.nil, hr, fun v H' _ r => ?_⟩
  · rw [Rp]
    exact ⟨a, _, rfl, ⟨rd_of_noLst nl hS, fun z => z⟩, rpl_ofInts ns⟩
  · rw [Rp] at r
    subst r
    exact q H'
theorem chk_get {p : Pg} {N : List Str} {sc : Scope} {b : List S} {sts : List Stmt} (h : (chkSs p N sc [] b sts).isSome = true) : chkSs p N sc [] b sts = some ((chkSs p N sc [] b sts).get h) := by
  rw [Option.some_get]
theorem ent_mk {K : PySem.W.Frag} {mg : Str → Option Value} {p : Pg} {f : Str} {fn : Fn} {st : Stmt} {a : Addr} {fd : FuncData} {ps N : List Str} (F : Fun K f f st a fd) (h1 : mg f = some (.ref a)) (h2 : FnScope N ps (defScope st)) (h3 : Binds K fd ps []) (h4 : fn.np = ps.length) (h5 : fn.ns = N.length)
    (h6 : (chkSs p N (defScope st) [] fn.body (defBody st)).isSome = true) : Ent K mg p f fn := ⟨st, a, fd, ps, N, _, h1, F, h2, h3, h4, h5, chk_get h6⟩
theorem rp_gtup {K : PySem.W.Frag} {O : Addr → Prop} {H : Hp} {t : Addr} {vs : List V} {ds : List D} (h : SqT K (fun _ => none) t vs) (r : RpL K O H ds vs) : Rp K O H (.tup ds) (.ref t) := by
  rw [Rp]
  exact ⟨t, vs, rfl, .inr h, r⟩
end LC

set_option Elab.async false
set_option linter.all false
set_option maxRecDepth 100000
set_option maxHeartbeats 4000000
/-! LC: the evaluator, step by step (for the plain laws) -/
namespace LC
open PySem L2

/-! ### expressions -/
def b1 (f : D → R D) : R D → R D
  | .ok x => f x
  | .exc c => .exc c
  | .bad => .bad
def b2 (f : D → D → R D) : R D → R D → R D
  | .ok x, .ok y => f x y
  | .ok _, .exc c => .exc c
  | .ok _, .bad => .bad
  | .exc c, _ => .exc c
  | .bad, _ => .bad
def bs (f : List D → R D) : R (List D) → R D
  | .ok x => f x
  | .exc c => .exc c
  | .bad => .bad
def bcons : R D → R (List D) → R (List D)
  | .ok x, .ok y => .ok (x :: y)
  | .ok _, .exc c => .exc c
  | .ok _, .bad => .bad
  | .exc c, _ => .exc c
  | .bad, _ => .bad
def band : R D → R D → R D
  | .ok (.bl true), z => z
  | .ok (.bl false), _ => .ok (.bl false)
  | .ok _, _ => .bad
  | .exc c, _ => .exc c
  | .bad, _ => .bad
def bor : R D → R D → R D
  | .ok (.bl true), _ => .ok (.bl true)
  | .ok (.bl false), z => z
  | .ok _, _ => .bad
  | .exc c, _ => .exc c
  | .bad, _ => .bad
def dNot : D → R D
  | .bl b => .ok (.bl (!b))
  | _ => .bad
def dNeg : D → R D
  | .int i => .ok (.int (-i))
  | _ => .bad
def b3 : R D → R (Option Int) → R (Option Int) → R D
  | .ok x, .ok l, .ok h => dCut x l h
  | .ok _, .ok _, .exc c => .exc c
  | .ok _, .ok _, .bad => .bad
  | .ok _, .exc c, _ => .exc c
  | .ok _, .bad, _ => .bad
  | .exc c, _, _ => .exc c
  | .bad, _, _ => .bad
def bchn (o o' : CmpOp) : R D → R D → R D → R D
  | .ok x, .ok y, w => match dCmp o x y with
    | .ok (.bl true) => b1 (dCmp o' y) w
    | .ok (.bl false) => .ok (.bl false)
    | .ok _ => .bad
    | .exc c => .exc c
    | .bad => .bad
  | .ok _, .exc c, _ => .exc c
  | .ok _, .bad, _ => .bad
  | .exc c, _, _ => .exc c
  | .bad, _, _ => .bad
def dTup (xs : List D) : R D := if xs.length ≤ LIM then .ok (.tup xs) else .bad
def dLst (xs : List D) : R D := if xs.length ≤ LIM then .ok (.lst xs) else .bad
def lcFn (c : Cf) (own : List Nat) (tg : Tg) (cond elt : E) (ρ : Rho) (d : D) : R (Option D) := match bindT tg d (wipeR ρ own) with
  | some ρ' => (ev c cond ρ').bind fun t => (rTruth t).bind fun b => match b with
    | true => (ev c elt ρ').bind fun x => .ok (some x)
    | false => .ok none
  | none => .bad
def lcS (f : D → R (Option D)) (its : List D) : R D := if its.length ≤ LIM then (lcGo f its).bind fun r => .ok (.lst r) else .bad
def blc (f : D → R (Option D)) : R (List D) → R D
  | .ok its => lcS f its
  | .exc c => .exc c
  | .bad => .bad
def bit (k : Src) : R (List D) → R (List D)
  | .ok ys => items k ys
  | .exc c => .exc c
  | .bad => .bad
def oR : Option D → R D
  | some d => .ok d
  | none => .bad
section
variable (c : Cf) (ρ : Rho)
theorem ev_var (i : Nat) : ev c (.var i) ρ = get ρ i := by rw [ev]
theorem ev_cst (d : D) : ev c (.cst d) ρ = .ok d := by rw [ev]
theorem ev_glb (x : Str) : ev c (.glb x) ρ = oR (c.glb.lookup x) := by
  rw [ev]; cases c.glb.lookup x <;> rfl
theorem ev_bin (o : Operator) (a b : E) : ev c (.bin o a b) ρ = b2 (dBin o) (ev c a ρ) (ev c b ρ) := by
  rw [ev]; cases ev c a ρ <;> cases ev c b ρ <;> rfl
theorem ev_cmp (o : CmpOp) (a b : E) : ev c (.cmp o a b) ρ = b2 (dCmp o) (ev c a ρ) (ev c b ρ) := by
  rw [ev]; cases ev c a ρ <;> cases ev c b ρ <;> rfl
theorem ev_neg (a : E) : ev c (.neg a) ρ = b1 dNeg (ev c a ρ) := by
  rw [ev]; cases h : ev c a ρ with
  | ok d => cases d <;> rfl
  | exc => rfl
  | bad => rfl
theorem ev_not (a : E) : ev c (.not a) ρ = b1 dNot (ev c a ρ) := by
  rw [ev]; cases h : ev c a ρ with
  | ok d => cases d <;> rfl
  | exc => rfl
  | bad => rfl
theorem ev_chn (o o' : CmpOp) (a b e : E) : ev c (.chn o o' a b e) ρ = bchn o o' (ev c a ρ) (ev c b ρ) (ev c e ρ) := by
  rw [ev]
  cases ev c a ρ <;> try rfl
  cases ev c b ρ <;> try rfl
  rename_i x y
  show (dCmp o x y).bind _ = match dCmp o x y with | .ok (.bl true) => b1 (dCmp o' y) (ev c e ρ) | .ok (.bl false) => .ok (.bl false) | .ok _ => .bad | .exc c => .exc c | .bad => .bad
  cases hd : dCmp o x y with
  | exc => rfl
  | bad => rfl
  | ok d =>
    cases d with
    | bl t =>
      cases t
      · rfl
      · show (ev c e ρ).bind _ = b1 (dCmp o' y) (ev c e ρ)
        cases ev c e ρ <;> rfl
    | _ => rfl
theorem ev_and (a b : E) : ev c (.and a b) ρ = band (ev c a ρ) (ev c b ρ) := by
  rw [ev]; cases ev c a ρ with
  | ok d => cases d with
    | bl t => cases t <;> rfl
    | _ => rfl
  | exc => rfl
  | bad => rfl
theorem ev_or (a b : E) : ev c (.or a b) ρ = bor (ev c a ρ) (ev c b ρ) := by
  rw [ev]; cases ev c a ρ with
  | ok d => cases d with
    | bl t => cases t <;> rfl
    | _ => rfl
  | exc => rfl
  | bad => rfl
theorem ev_idx (a b : E) : ev c (.idx a b) ρ = b2 dIdx (ev c a ρ) (ev c b ρ) := by
  rw [ev]; cases ev c a ρ <;> cases ev c b ρ <;> rfl
theorem ev_cut (a : E) (bl : Bool) (lo : E) (bh : Bool) (hi : E) : ev c (.cut a bl lo bh hi) ρ = b3 (ev c a ρ) (prt bl (ev c lo ρ)) (prt bh (ev c hi ρ)) := by
  rw [ev]; cases ev c a ρ <;> try rfl
  cases prt bl (ev c lo ρ) <;> try rfl
  cases prt bh (ev c hi ρ) <;> rfl
theorem ev_stp (k : Stp) (a : E) : ev c (.stp k a) ρ = b1 (dStp k) (ev c a ρ) := by
  rw [ev]; cases ev c a ρ <;> rfl
theorem ev_tup (es : List E) : ev c (.tup es) ρ = bs dTup (evs c es ρ) := by
  rw [ev]; cases evs c es ρ <;> rfl
theorem ev_lst (es : List E) : ev c (.lst es) ρ = bs dLst (evs c es ρ) := by
  rw [ev]; cases evs c es ρ <;> rfl
theorem ev_call (f : Str) (es : List E) : ev c (.call f es) ρ = bs (c.call f) (evs c es ρ) := by
  rw [ev]; cases evs c es ρ <;> rfl
theorem ev_bi (b : Bi) (es : List E) : ev c (.bi b es) ρ = bs (dBi b) (evs c es ρ) := by
  rw [ev]; cases evs c es ρ <;> rfl
theorem ev_isi (a : E) (t : Ty) : ev c (.isi a t) ρ = b1 (fun x => rB (dIsi x t)) (ev c a ρ) := by
  rw [ev]; cases ev c a ρ <;> rfl
theorem ev_lc (own : List Nat) (tg : Tg) (k : Src) (ss : List E) (cond elt : E) : ev c (.lc own tg k ss cond elt) ρ = blc (lcFn c own tg cond elt ρ) (bit k (evs c ss ρ)) := by
  rw [ev]; cases evs c ss ρ with
  | ok ys =>
    show (items k ys).bind _ = blc _ (items k ys)
    cases items k ys <;> rfl
  | exc => rfl
  | bad => rfl
theorem evs_nil : evs c [] ρ = .ok [] := by rw [evs]
theorem evs_cons (e : E) (es : List E) : evs c (e :: es) ρ = bcons (ev c e ρ) (evs c es ρ) := by
  rw [evs]; cases ev c e ρ <;> cases evs c es ρ <;> rfl
end
section
variable {f : D → R D} {g : D → D → R D} {h : List D → R D} {x y z : D} {xs ys : List D} {r : R D}
theorem b1_ok : b1 f (.ok x) = f x := rfl
theorem b2_ok : b2 g (.ok x) (.ok y) = g x y := rfl
theorem bs_ok : bs h (.ok xs) = h xs := rfl
theorem bcons_ok : bcons (.ok x) (.ok xs) = .ok (x :: xs) := rfl
theorem band_t : band (.ok (.bl true)) r = r := rfl
theorem band_f : band (.ok (.bl false)) r = .ok (.bl false) := rfl
theorem band_b {a b : Bool} : band (.ok (.bl a)) (.ok (.bl b)) = .ok (.bl (a && b)) := by cases a <;> rfl
theorem bor_t : bor (.ok (.bl true)) r = .ok (.bl true) := rfl
theorem bor_f : bor (.ok (.bl false)) r = r := rfl
theorem bor_b {a b : Bool} : bor (.ok (.bl a)) (.ok (.bl b)) = .ok (.bl (a || b)) := by cases a <;> rfl
theorem b3_ok {l h : Option Int} : b3 (.ok x) (.ok l) (.ok h) = dCut x l h := rfl
theorem dNot_b {a : Bool} : dNot (.bl a) = .ok (.bl (!a)) := rfl
theorem dNeg_i {i : Int} : dNeg (.int i) = .ok (.int (-i)) := rfl
theorem prt_f : prt false r = .ok none := by cases r <;> rfl
theorem prt_t {i : Int} : prt true (.ok (.int i)) = .ok (some i) := rfl
theorem blc_ok {F : D → R (Option D)} : blc F (.ok xs) = lcS F xs := rfl
theorem bit_ok {k : Src} : bit k (.ok xs) = items k xs := rfl
theorem dTup_ok (hl : xs.length ≤ 1000000) : dTup xs = .ok (.tup xs) := if_pos hl
theorem dLst_ok (hl : xs.length ≤ 1000000) : dLst xs = .ok (.lst xs) := if_pos hl
end
/-! ### operators -/
section
variable {i j k : Int} {xs ys : List D} {s t : Str} {x y : D}
theorem add_ii : dBin .Add (.int i) (.int j) = .ok (.int (i + j)) := rfl
theorem sub_ii : dBin .Sub (.int i) (.int j) = .ok (.int (i - j)) := rfl
theorem small_of (h1 : -18446744073709551616 < i) (h2 : i < 18446744073709551616) : small64 i = true := by
  unfold small64
  rw [decide_eq_true (show -(2 ^ 64) < i by omega), decide_eq_true (show i < 2 ^ 64 by omega)]
  rfl
theorem mul_l (h1 : -18446744073709551616 < i) (h2 : i < 18446744073709551616) : dBin .Mult (.int i) (.int j) = .ok (.int (i * j)) := by
  show (if small64 i || small64 j then _ else _) = _
  rw [small_of h1 h2]; rfl
theorem mul_r (h1 : -18446744073709551616 < j) (h2 : j < 18446744073709551616) : dBin .Mult (.int i) (.int j) = .ok (.int (i * j)) := by
  show (if small64 i || small64 j then _ else _) = _
  rw [small_of h1 h2, Bool.or_true]; rfl
theorem div_ii (h1 : 0 < j) (h2 : j < 1073741824) : dBin .FloorDiv (.int i) (.int j) = .ok (.int (i / j)) := if_pos ⟨h1, h2⟩
theorem mod_ii (h1 : 0 < j) : dBin .Mod (.int i) (.int j) = .ok (.int (i % j)) := if_pos h1
theorem add_tt (h : xs.length + ys.length ≤ 1000000) : dBin .Add (.tup xs) (.tup ys) = .ok (.tup (xs ++ ys)) := if_pos h
theorem add_ll (h : xs.length + ys.length ≤ 1000000) : dBin .Add (.lst xs) (.lst ys) = .ok (.lst (xs ++ ys)) := if_pos h
theorem rep_one (x : D) (k : Int) : rep [x] k = List.replicate k.toNat x := by
  unfold rep
  induction k.toNat with
  | zero => rfl
  | succ n ih => rw [List.replicate_succ, List.flatten_cons, ih]; rfl
theorem mul_t1 (h1 : 0 ≤ k) (h2 : k ≤ 1000) : dBin .Mult (.tup [x]) (.int k) = .ok (.tup (List.replicate k.toNat x)) := by
  rw [← rep_one]
  exact if_pos ⟨List.cons_ne_nil _ _, h2, (by show 1 ≤ 1000; decide), h1⟩
theorem mul_l1 (h1 : 0 ≤ k) (h2 : k ≤ 1000) : dBin .Mult (.lst [x]) (.int k) = .ok (.lst (List.replicate k.toNat x)) := by
  rw [← rep_one]
  exact if_pos ⟨h2, (by show 1 ≤ 1000; decide), h1⟩
theorem pow_ii (h : 0 ≤ j ∧ j ≤ 1000) (h1 : -18446744073709551616 < i) (h2 : i < 18446744073709551616) : dBin .Pow (.int i) (.int j) = .ok (.int (i ^ j.toNat)) := if_pos ⟨h.1, h.2, small_of h1 h2⟩
theorem lt_ii : dCmp .Lt (.int i) (.int j) = .ok (.bl (decide (i < j))) := rfl
theorem le_ii : dCmp .LtE (.int i) (.int j) = .ok (.bl (decide (i ≤ j))) := rfl
theorem gt_ii : dCmp .Gt (.int i) (.int j) = .ok (.bl (decide (j < i))) := rfl
theorem ge_ii : dCmp .GtE (.int i) (.int j) = .ok (.bl (decide (j ≤ i))) := rfl
theorem bchn_ok {o o' : CmpOp} {x y z : D} {a b : Bool} (h1 : dCmp o x y = .ok (.bl a)) (h2 : dCmp o' y z = .ok (.bl b)) : bchn o o' (.ok x) (.ok y) (.ok z) = .ok (.bl (a && b)) := by
  unfold bchn
  dsimp only
  rw [h1]
  cases a
  · rfl
  · exact h2
theorem chn_le : bchn .LtE .LtE (.ok (.int i)) (.ok (.int j)) (.ok (.int k)) = .ok (.bl (decide (i ≤ j) && decide (j ≤ k))) := bchn_ok rfl rfl
theorem is_bb {a b : Bool} : dCmp .Is (.bl a) (.bl b) = .ok (.bl (decide (a = b))) := rfl
theorem isn_bb {a b : Bool} : dCmp .IsNot (.bl a) (.bl b) = .ok (.bl (!decide (a = b))) := rfl
end
/-! ### equality -/
def deq (a b : D) : Bool := PyData.eqv (toPy a) (toPy b)
def deqL (a b : List D) : Bool := PyData.eqvAll (toPys a) (toPys b)
def shD : Nat → D → Bool
  | _, .non | _, .bl _ | _, .int _ => true
  | _, .str s => PyData.strOk s
  | _, .ref _ => false
  | 0, .tup _ | 0, .lst _ => false
  | n + 1, .tup xs => xs.all (shD n)
  | n + 1, .lst xs => xs.all (shD n)
theorem toPys_len : ∀ xs : List D, (toPys xs).length = xs.length
  | [] => by rw [toPys]; rfl
  | x :: xs => by rw [toPys, List.length_cons, List.length_cons, toPys_len xs]
theorem shD_all {n : Nat} (ih : ∀ d, shD n d = true → (toPy d).canLay0 = true ∧ (toPy d).depth ≤ n) : ∀ xs : List D, xs.all (shD n) = true → PyData.canLayAll0 (toPys xs) = true ∧ PyData.depthAll (toPys xs) ≤ n
  | [], _ => by rw [toPys, PyData.canLayAll0, PyData.depthAll]; exact ⟨rfl, Nat.zero_le _⟩
  | x :: xs, h => by
    rw [List.all_cons, Bool.and_eq_true] at h
    have h1 := ih x h.1
    have h2 := shD_all ih xs h.2
    rw [toPys, PyData.canLayAll0, PyData.depthAll, h1.1, h2.1]
    exact ⟨rfl, Nat.max_le.mpr ⟨h1.2, h2.2⟩⟩
theorem shD_ok : ∀ (n : Nat) (d : D), shD n d = true → (toPy d).canLay0 = true ∧ (toPy d).depth ≤ n := by
  intro n
  induction n with
  | zero =>
    intro d h
    cases d <;> first
      | (rw [toPy, PyData.canLay0, PyData.depth]; exact ⟨rfl, Nat.le_refl _⟩)
      | (rw [toPy, PyData.canLay0, PyData.depth]; rw [shD] at h; exact ⟨h, Nat.le_refl _⟩)
      | (rw [shD] at h; cases h)
  | succ n ih =>
    intro d h
    cases d <;> first
      | (rw [toPy, PyData.canLay0, PyData.depth]; exact ⟨rfl, Nat.zero_le _⟩)
      | (rw [toPy, PyData.canLay0, PyData.depth]; rw [shD] at h; exact ⟨h, Nat.zero_le _⟩)
      | (rw [shD] at h; have := shD_all ih _ h; rw [toPy, PyData.canLay0, PyData.depth]; exact ⟨this.1, Nat.succ_le_succ this.2⟩)
      | (rw [shD] at h; cases h)
theorem shaped_of {d : D} (h : shD 9 d = true) : SeqAt.shaped (toPy d) = true := by
  have := shD_ok 9 d h
  unfold SeqAt.shaped
  rw [this.1, decide_eq_true (show (toPy d).depth ≤ 64 by omega)]
  rfl
theorem dEq_ok {a b : D} (h1 : shD 9 a = true) (h2 : shD 9 b = true) : dEq a b = .ok (deq a b) := by
  unfold dEq
  rw [shaped_of h1, shaped_of h2]
  rfl
theorem eq_ok {a b : D} (h1 : shD 9 a = true) (h2 : shD 9 b = true) : dCmp .Eq a b = .ok (.bl (deq a b)) := by
  show rB (dEq a b) = _
  rw [dEq_ok h1 h2]; rfl
theorem ne_ok {a b : D} (h1 : shD 9 a = true) (h2 : shD 9 b = true) : dCmp .NotEq a b = .ok (.bl (!deq a b)) := by
  show rN (dEq a b) = _
  rw [dEq_ok h1 h2]; rfl
theorem in_tup {a : D} {ys : List D} (h1 : shD 9 a = true) (h2 : shD 9 (.tup ys) = true) : dCmp .In a (.tup ys) = .ok (.bl (ys.any fun z => deq z a)) := by
  show rB (if (SeqAt.shaped (toPy a) && SeqAt.shaped (toPy (.tup ys))) = true then .ok (ys.any fun z => PyData.eqv (toPy z) (toPy a)) else .bad) = _
  rw [shaped_of h1, shaped_of h2]; rfl
theorem nin_tup {a : D} {ys : List D} (h1 : shD 9 a = true) (h2 : shD 9 (.tup ys) = true) : dCmp .NotIn a (.tup ys) = .ok (.bl (!ys.any fun z => deq z a)) := by
  show rN (if (SeqAt.shaped (toPy a) && SeqAt.shaped (toPy (.tup ys))) = true then .ok (ys.any fun z => PyData.eqv (toPy z) (toPy a)) else .bad) = _
  rw [shaped_of h1, shaped_of h2]; rfl
theorem in_lst {a : D} {ys : List D} (h1 : shD 9 a = true) (h2 : shD 9 (.lst ys) = true) : dCmp .In a (.lst ys) = .ok (.bl (ys.any fun z => deq z a)) := by
  show rB (if (SeqAt.shaped (toPy a) && SeqAt.shaped (toPy (.lst ys))) = true then .ok (ys.any fun z => PyData.eqv (toPy z) (toPy a)) else .bad) = _
  rw [shaped_of h1, shaped_of h2]; rfl
theorem nin_lst {a : D} {ys : List D} (h1 : shD 9 a = true) (h2 : shD 9 (.lst ys) = true) : dCmp .NotIn a (.lst ys) = .ok (.bl (!ys.any fun z => deq z a)) := by
  show rN (if (SeqAt.shaped (toPy a) && SeqAt.shaped (toPy (.lst ys))) = true then .ok (ys.any fun z => PyData.eqv (toPy z) (toPy a)) else .bad) = _
  rw [shaped_of h1, shaped_of h2]; rfl
section
variable {i j : Int} {a b : Bool} {s t : Str} {xs ys : List D} {n : Nat}
theorem sh_int : shD n (.int i) = true := by cases n <;> rfl
theorem sh_bl : shD n (.bl a) = true := by cases n <;> rfl
theorem sh_non : shD n .non = true := by cases n <;> rfl
theorem sh_str : shD n (.str s) = PyData.strOk s := by cases n <;> rfl
theorem sh_tup : shD (n + 1) (.tup xs) = xs.all (shD n) := rfl
theorem sh_lst : shD (n + 1) (.lst xs) = xs.all (shD n) := rfl
theorem sh9t : shD 9 (.tup xs) = xs.all (shD 8) := rfl
theorem sh9l : shD 9 (.lst xs) = xs.all (shD 8) := rfl
theorem sh8t : shD 8 (.tup xs) = xs.all (shD 7) := rfl
theorem sh8l : shD 8 (.lst xs) = xs.all (shD 7) := rfl
theorem sh7t : shD 7 (.tup xs) = xs.all (shD 6) := rfl
theorem sh7l : shD 7 (.lst xs) = xs.all (shD 6) := rfl
theorem sh6t : shD 6 (.tup xs) = xs.all (shD 5) := rfl
theorem sh6l : shD 6 (.lst xs) = xs.all (shD 5) := rfl
theorem sh5t : shD 5 (.tup xs) = xs.all (shD 4) := rfl
theorem sh5l : shD 5 (.lst xs) = xs.all (shD 4) := rfl
theorem sh4t : shD 4 (.tup xs) = xs.all (shD 3) := rfl
theorem sh4l : shD 4 (.lst xs) = xs.all (shD 3) := rfl
theorem sh_ints : ∀ ns : List Int, (ns.map D.int).all (shD n) = true
  | [] => rfl
  | x :: r => by rw [List.map_cons, List.all_cons, sh_int, sh_ints r]; rfl
theorem deq_ii : deq (.int i) (.int j) = decide (i = j) := by
  unfold deq
  rw [toPy, toPy, PyData.eqv]; exact (Bool.eq_iff_iff.mpr (by simp))
theorem deq_bb : deq (.bl a) (.bl b) = decide (a = b) := by
  unfold deq
  rw [toPy, toPy, PyData.eqv]; cases a <;> cases b <;> rfl
theorem deq_ss : deq (.str s) (.str t) = (s == t) := by
  unfold deq
  rw [toPy, toPy, PyData.eqv]
theorem deq_tt : deq (.tup xs) (.tup ys) = deqL xs ys := by
  unfold deq deqL
  rw [toPy, toPy, PyData.eqv]
theorem deq_ll : deq (.lst xs) (.lst ys) = deqL xs ys := by
  unfold deq deqL
  rw [toPy, toPy, PyData.eqv]
theorem deqL_nil : deqL [] [] = true := by
  unfold deqL
  rw [toPys, PyData.eqvAll]
theorem deqL_cons {x y : D} : deqL (x :: xs) (y :: ys) = (deq x y && deqL xs ys) := by
  unfold deqL deq
  rw [toPys, toPys, PyData.eqvAll]
theorem deqL_nc {y : D} : deqL [] (y :: ys) = false := by
  unfold deqL
  rw [toPys, toPys, PyData.eqvAll]
theorem deqL_cn {y : D} : deqL (y :: ys) [] = false := by
  unfold deqL
  rw [toPys, toPys, PyData.eqvAll]
theorem deqL_ints : ∀ ns ms : List Int, deqL (ns.map D.int) (ms.map D.int) = decide (ns = ms)
  | [], [] => deqL_nil
  | [], _ :: _ => deqL_nc
  | _ :: _, [] => deqL_cn
  | x :: r, y :: q => by
    rw [List.map_cons, List.map_cons, deqL_cons, deq_ii, deqL_ints r q]
    rw [← Bool.decide_and]
    exact decide_eq_decide.mpr (by simp)
end
mutual
theorem deq_refl : ∀ (d : D), (∀ n, shD n d = true → deq d d = true)
  | .non, n, h => by unfold deq; rw [toPy, PyData.eqv]
  | .bl b, n, h => by rw [deq_bb]; exact decide_eq_true rfl
  | .int b, n, h => by rw [deq_ii]; exact decide_eq_true rfl
  | .str b, n, h => by rw [deq_ss]; exact beq_self_eq_true b
  | .ref _, n, h => by cases n <;> cases h
  | .tup xs, n, h => by
    cases n with
    | zero => cases h
    | succ n => rw [deq_tt]; exact deqL_refl xs n h
  | .lst xs, n, h => by
    cases n with
    | zero => cases h
    | succ n => rw [deq_ll]; exact deqL_refl xs n h
theorem deqL_refl : ∀ (d : List D), (∀ n, d.all (shD n) = true → deqL d d = true)
  | [], n, h => deqL_nil
  | x :: xs, n, h => by
    rw [List.all_cons, Bool.and_eq_true] at h
    rw [deqL_cons, deq_refl x n h.1, deqL_refl xs n h.2]
    rfl
end
end LC

set_option Elab.async false
set_option linter.all false
set_option maxRecDepth 100000
set_option maxHeartbeats 4000000
/-! LC: places, slices, built-ins, statements (for the plain laws) -/
namespace LC
open PySem L2
section
variable {a b d e f g h x y : D} {r ρ : Rho} {n : Nat} {q : List D} {i j : Int} {ns : List Int}
theorem getD_ix {α : Type} {xs : List α} {n : Nat} {z : α} (h : n < xs.length) : xs.getD n z = xs[n] := by
  rw [List.getD_eq_getElem?_getD, List.getElem?_eq_getElem h]
  rfl
theorem mul_t1i {k : Int} (h1 : 0 ≤ k) (h2 : k ≤ 1000) : dBin .Mult (.tup [.int i]) (.int k) = .ok (.tup ((List.replicate k.toNat i).map D.int)) := by
  rw [mul_t1 h1 h2, List.map_replicate]
theorem mul_l1i {k : Int} (h1 : 0 ≤ k) (h2 : k ≤ 1000) : dBin .Mult (.lst [.int i]) (.int k) = .ok (.lst ((List.replicate k.toNat i).map D.int)) := by
  rw [mul_l1 h1 h2, List.map_replicate]
theorem get_0 {o : Rho} : get (some d :: o) 0 = .ok d := rfl
theorem get_s {o : Rho} {z : Option D} : get (z :: o) (n + 1) = get o n := rfl
theorem atI_pos {α : Type} {xs : List α} {i : Int} (h0 : 0 ≤ i) (h1 : i < xs.length) : atI xs i = xs[i.toNat]? := by
  unfold atI ixN
  rw [if_pos h0, if_pos h1]
  rfl
theorem ix_t {xs : List D} (h0 : 0 ≤ i) (h1 : i < xs.length) : dIdx (.tup xs) (.int i) = .ok (xs.getD i.toNat .non) := by
  unfold dIdx
  dsimp only
  rw [atI_pos h0 h1, List.getElem?_eq_getElem (by omega)]
  dsimp only
  rw [getD_ix (by omega)]
theorem ix_l {xs : List D} (h0 : 0 ≤ i) (h1 : i < xs.length) : dIdx (.lst xs) (.int i) = .ok (xs.getD i.toNat .non) := by
  unfold dIdx
  dsimp only
  rw [atI_pos h0 h1, List.getElem?_eq_getElem (by omega)]
  dsimp only
  rw [getD_ix (by omega)]
theorem ix_ti (h0 : 0 ≤ i) (h1 : i < ns.length) : dIdx (.tup (ns.map D.int)) (.int i) = .ok (.int (ns.getD i.toNat 0)) := by
  rw [ix_t h0 (by rw [List.length_map]; exact h1), getD_ix (by rw [List.length_map]; omega), getD_ix (by omega), List.getElem_map]
theorem ix_li (h0 : 0 ≤ i) (h1 : i < ns.length) : dIdx (.lst (ns.map D.int)) (.int i) = .ok (.int (ns.getD i.toNat 0)) := by
  rw [ix_l h0 (by rw [List.length_map]; exact h1), getD_ix (by rw [List.length_map]; omega), getD_ix (by omega), List.getElem_map]
theorem ix_t0 : dIdx (.tup (a :: q)) (.int 0) = .ok a := by rw [ix_t (by omega) (by rw [List.length_cons]; omega)]; rfl
theorem ix_t1 : dIdx (.tup (a :: b :: q)) (.int 1) = .ok b := by rw [ix_t (by omega) (by simp only [List.length_cons]; omega)]; rfl
theorem ix_t2 : dIdx (.tup (a :: b :: d :: q)) (.int 2) = .ok d := by rw [ix_t (by omega) (by simp only [List.length_cons]; omega)]; rfl
theorem ix_t3 : dIdx (.tup (a :: b :: d :: e :: q)) (.int 3) = .ok e := by rw [ix_t (by omega) (by simp only [List.length_cons]; omega)]; rfl
theorem ix_t4 : dIdx (.tup (a :: b :: d :: e :: f :: q)) (.int 4) = .ok f := by rw [ix_t (by omega) (by simp only [List.length_cons]; omega)]; rfl
theorem ix_t5 : dIdx (.tup (a :: b :: d :: e :: f :: g :: q)) (.int 5) = .ok g := by rw [ix_t (by omega) (by simp only [List.length_cons]; omega)]; rfl
theorem ix_t6 : dIdx (.tup (a :: b :: d :: e :: f :: g :: h :: q)) (.int 6) = .ok h := by rw [ix_t (by omega) (by simp only [List.length_cons]; omega)]; rfl
theorem ix_l0 : dIdx (.lst (a :: q)) (.int 0) = .ok a := by rw [ix_l (by omega) (by rw [List.length_cons]; omega)]; rfl
theorem ix_l1 : dIdx (.lst (a :: b :: q)) (.int 1) = .ok b := by rw [ix_l (by omega) (by simp only [List.length_cons]; omega)]; rfl
theorem ix_l2 : dIdx (.lst (a :: b :: d :: q)) (.int 2) = .ok d := by rw [ix_l (by omega) (by simp only [List.length_cons]; omega)]; rfl
theorem ix_l3 : dIdx (.lst (a :: b :: d :: e :: q)) (.int 3) = .ok e := by rw [ix_l (by omega) (by simp only [List.length_cons]; omega)]; rfl
theorem ix_l4 : dIdx (.lst (a :: b :: d :: e :: f :: q)) (.int 4) = .ok f := by rw [ix_l (by omega) (by simp only [List.length_cons]; omega)]; rfl
theorem ix_l5 : dIdx (.lst (a :: b :: d :: e :: f :: g :: q)) (.int 5) = .ok g := by rw [ix_l (by omega) (by simp only [List.length_cons]; omega)]; rfl
/-- a choice of two by a truth value -/
theorem ix_lb {t : Bool} : dIdx (.lst [a, b]) (.int (if t = true then 1 else 0)) = .ok (if t = true then b else a) := by cases t <;> rfl
theorem ix_tb {t : Bool} : dIdx (.tup [a, b]) (.int (if t = true then 1 else 0)) = .ok (if t = true then b else a) := by cases t <;> rfl
theorem atI_lastD {α : Type} {xs : List α} {z : α} : atI (xs ++ [z]) (-1) = some z := atI_last _ _
theorem ix_tm {xs : List D} : dIdx (.tup (xs ++ [a])) (.int (-1)) = .ok a := by
  unfold dIdx
  dsimp only
  rw [atI_lastD]
theorem ix_lm {xs : List D} : dIdx (.lst (xs ++ [a])) (.int (-1)) = .ok a := by
  unfold dIdx
  dsimp only
  rw [atI_lastD]
/-! slices -/
theorem cut_hi {α : Type} {xs : List α} (h0 : 0 ≤ i) : cutL xs none (some i) = xs.take i.toNat := by
  unfold cutL HT.sIx
  dsimp only
  rw [if_neg (by omega), List.drop_zero, Nat.sub_zero]
  by_cases hl : i.toNat ≤ xs.length
  · rw [Nat.min_eq_left hl]
  · rw [Nat.min_eq_right (by omega), List.take_of_length_le (Nat.le_refl _), List.take_of_length_le (by omega)]
theorem cut_lo {α : Type} {xs : List α} (h0 : 0 ≤ i) : cutL xs (some i) none = xs.drop i.toNat := by
  unfold cutL HT.sIx
  dsimp only
  rw [if_neg (by omega)]
  by_cases hl : i.toNat ≤ xs.length
  · rw [Nat.min_eq_left hl, List.take_of_length_le (by rw [List.length_drop]; omega)]
  · rw [Nat.min_eq_right (by omega), List.drop_of_length_le (Nat.le_refl _), List.drop_of_length_le (by omega), List.take_nil]
theorem cut_lh {α : Type} {xs : List α} (h0 : 0 ≤ i) (h1 : 0 ≤ j) : cutL xs (some i) (some j) = (xs.take j.toNat).drop i.toNat := by
  unfold cutL HT.sIx
  dsimp only
  rw [if_neg (by omega), if_neg (by omega)]
  rw [List.drop_take]
  by_cases hl : i.toNat ≤ xs.length
  · rw [Nat.min_eq_left hl]
    by_cases hj : j.toNat ≤ xs.length
    · rw [Nat.min_eq_left hj]
    · rw [Nat.min_eq_right (by omega), List.take_of_length_le (by rw [List.length_drop]; omega), List.take_of_length_le (by rw [List.length_drop]; omega)]
  · rw [Nat.min_eq_right (by omega : xs.length ≤ i.toNat), List.drop_of_length_le (Nat.le_refl _), List.drop_of_length_le (by omega)]
    simp
theorem cut_m {α : Type} {xs : List α} : cutL xs none (some (-1)) = xs.dropLast := by
  unfold cutL HT.sIx
  dsimp only
  rw [if_pos (by omega), List.drop_zero, Nat.sub_zero, List.dropLast_eq_take]
  congr 1
  omega
theorem cut_l1 {α : Type} {xs : List α} : cutL xs (some (-1)) none = xs.drop (xs.length - 1) := by
  unfold cutL HT.sIx
  dsimp only
  rw [if_pos (by omega)]
  rw [List.take_of_length_le (by rw [List.length_drop]; omega)]
  congr 1
  omega
theorem dCut_t {xs : List D} {l u : Option Int} : dCut (.tup xs) l u = .ok (.tup (cutL xs l u)) := rfl
theorem dCut_l {xs : List D} {l u : Option Int} : dCut (.lst xs) l u = .ok (.lst (cutL xs l u)) := rfl
theorem rev_t {xs : List D} (hl : xs.length ≤ 1000000) : dStp .rev (.tup xs) = .ok (.tup xs.reverse) := if_pos hl
theorem rev_l {xs : List D} (hl : xs.length ≤ 1000000) : dStp .rev (.lst xs) = .ok (.lst xs.reverse) := if_pos hl
theorem even_t {xs : List D} (hl : xs.length ≤ 1000000) : dStp .even (.tup xs) = .ok (.tup (evens xs)) := if_pos hl
theorem odd_t {xs : List D} (hl : xs.length ≤ 1000000) : dStp .odd (.tup xs) = .ok (.tup (evens xs.tail)) := if_pos hl
theorem even_l {xs : List D} (hl : xs.length ≤ 1000000) : dStp .even (.lst xs) = .ok (.lst (evens xs)) := if_pos hl
theorem odd_l {xs : List D} (hl : xs.length ≤ 1000000) : dStp .odd (.lst xs) = .ok (.lst (evens xs.tail)) := if_pos hl
/-! built-ins -/
theorem len_t {xs : List D} : dBi .len [.tup xs] = .ok (.int xs.length) := rfl
theorem len_l {xs : List D} : dBi .len [.lst xs] = .ok (.int xs.length) := rfl
theorem int_b {t : Bool} : dBi .int [.bl t] = .ok (.int (if t = true then 1 else 0)) := rfl
theorem int_i : dBi .int [.int i] = .ok (.int i) := rfl
theorem tuple_t {xs : List D} : dBi .tuple [.tup xs] = .ok (.tup xs) := rfl
theorem tuple_l {xs : List D} : dBi .tuple [.lst xs] = .ok (.tup xs) := rfl
theorem list_t {xs : List D} : dBi .list [.tup xs] = .ok (.lst xs) := rfl
theorem list_l {xs : List D} : dBi .list [.lst xs] = .ok (.lst xs) := rfl
theorem abs_i : dBi .abs [.int i] = .ok (.int (if i < 0 then -i else i)) := rfl
theorem intsOf_map : ∀ ns : List Int, intsOf (ns.map D.int) = some ns
  | [] => rfl
  | n :: ns => by
    show (intsOf (ns.map D.int)).map (n :: ·) = some (n :: ns)
    rw [intsOf_map ns]
    rfl
theorem boolsOf_map : ∀ ns : List Bool, boolsOf (ns.map D.bl) = some ns
  | [] => rfl
  | n :: ns => by
    show (boolsOf (ns.map D.bl)).map (n :: ·) = some (n :: ns)
    rw [boolsOf_map ns]
    rfl
theorem sum_t : dBi .sum [.tup (ns.map D.int)] = .ok (.int ns.sum) := by
  show (match intsOf (ns.map D.int) with | some ns => R.ok (D.int ns.sum) | none => R.bad) = _
  rw [intsOf_map]
theorem sum_l : dBi .sum [.lst (ns.map D.int)] = .ok (.int ns.sum) := by
  show (match intsOf (ns.map D.int) with | some ns => R.ok (D.int ns.sum) | none => R.bad) = _
  rw [intsOf_map]
theorem max_l : dBi .max [.lst ((i :: ns).map D.int)] = .ok (.int (maxL i ns)) := by
  show (match intsOf ((i :: ns).map D.int) with | some (n :: ns) => R.ok (D.int (maxL n ns)) | _ => R.bad) = _
  rw [intsOf_map]
theorem max_t : dBi .max [.tup ((i :: ns).map D.int)] = .ok (.int (maxL i ns)) := by
  show (match intsOf ((i :: ns).map D.int) with | some (n :: ns) => R.ok (D.int (maxL n ns)) | _ => R.bad) = _
  rw [intsOf_map]
theorem min_l : dBi .min [.lst ((i :: ns).map D.int)] = .ok (.int (minL i ns)) := by
  show (match intsOf ((i :: ns).map D.int) with | some (n :: ns) => R.ok (D.int (minL n ns)) | _ => R.bad) = _
  rw [intsOf_map]
theorem min_t : dBi .min [.tup ((i :: ns).map D.int)] = .ok (.int (minL i ns)) := by
  show (match intsOf ((i :: ns).map D.int) with | some (n :: ns) => R.ok (D.int (minL n ns)) | _ => R.bad) = _
  rw [intsOf_map]
theorem max_2 : dBi .max [.int i, .int j] = .ok (.int (max i j)) := by
  show R.ok (D.int (if j > i then j else i)) = _
  congr 2
  omega
theorem min_2 : dBi .min [.int i, .int j] = .ok (.int (min i j)) := by
  show R.ok (D.int (if j < i then j else i)) = _
  congr 2
  omega
theorem max_3 {k : Int} : dBi .max [.int i, .int j, .int k] = .ok (.int (max i (max j k))) := by
  show R.ok (D.int (if k > (if j > i then j else i) then k else (if j > i then j else i))) = _
  congr 2
  omega
theorem min_3 {k : Int} : dBi .min [.int i, .int j, .int k] = .ok (.int (min i (min j k))) := by
  show R.ok (D.int (if k < (if j < i then j else i) then k else (if j < i then j else i))) = _
  congr 2
  omega
theorem all_l {ts : List Bool} : dBi .all [.lst (ts.map D.bl)] = .ok (.bl (ts.all id)) := by
  show (match boolsOf (ts.map D.bl) with | some bs => R.ok (D.bl (bs.all id)) | none => R.bad) = _
  rw [boolsOf_map]
theorem maxL_le : ∀ (ns : List Int) (m : Int), m ≤ maxL m ns ∧ ∀ x ∈ ns, x ≤ maxL m ns
  | [], m => ⟨Int.le_refl _, fun _ h => nomatch h⟩
  | x :: r, m => by
    have ih := maxL_le r (if x > m then x else m)
    rw [maxL]
    refine ⟨by have := ih.1; split at this <;> omega, fun y hy => ?_⟩
    rcases List.mem_cons.mp hy with rfl | hy
    · have := ih.1; split at this <;> omega
    · exact ih.2 y hy
theorem maxL_mem : ∀ (ns : List Int) (m : Int), maxL m ns = m ∨ maxL m ns ∈ ns
  | [], m => .inl rfl
  | x :: r, m => by
    rw [maxL]
    rcases maxL_mem r (if x > m then x else m) with h | h
    · rw [h]
      split
      · exact .inr List.mem_cons_self
      · exact .inl rfl
    · exact .inr (List.mem_cons_of_mem _ h)
/-! kinds -/
theorem isi_v {t : Ty} : (fun z => rB (dIsi z t)) x = rB (dIsi x t) := rfl
theorem isi_ii : rB (dIsi (.int i) .int) = .ok (.bl true) := rfl
theorem isi_ib : rB (dIsi (.int i) .bool) = .ok (.bl false) := rfl
theorem isi_is : rB (dIsi (.int i) .str) = .ok (.bl false) := rfl
theorem isi_it : rB (dIsi (.int i) .tuple) = .ok (.bl false) := rfl
theorem isi_il : rB (dIsi (.int i) .list) = .ok (.bl false) := rfl
theorem isi_bi {t : Bool} : rB (dIsi (.bl t) .int) = .ok (.bl true) := rfl
theorem isi_bb {t : Bool} : rB (dIsi (.bl t) .bool) = .ok (.bl true) := rfl
theorem isi_bt {t : Bool} : rB (dIsi (.bl t) .tuple) = .ok (.bl false) := rfl
theorem isi_bs {t : Bool} : rB (dIsi (.bl t) .str) = .ok (.bl false) := rfl
theorem isi_tt {xs : List D} : rB (dIsi (.tup xs) .tuple) = .ok (.bl true) := rfl
theorem isi_tl {xs : List D} : rB (dIsi (.tup xs) .list) = .ok (.bl false) := rfl
theorem isi_ti {xs : List D} : rB (dIsi (.tup xs) .int) = .ok (.bl false) := rfl
theorem isi_ts {xs : List D} : rB (dIsi (.tup xs) .str) = .ok (.bl false) := rfl
theorem isi_ll {xs : List D} : rB (dIsi (.lst xs) .list) = .ok (.bl true) := rfl
theorem isi_lt {xs : List D} : rB (dIsi (.lst xs) .tuple) = .ok (.bl false) := rfl
theorem isi_li {xs : List D} : rB (dIsi (.lst xs) .int) = .ok (.bl false) := rfl
theorem isi_ls {xs : List D} : rB (dIsi (.lst xs) .str) = .ok (.bl false) := rfl
theorem isi_ss {s : Str} : rB (dIsi (.str s) .str) = .ok (.bl true) := rfl
theorem isi_si {s : Str} : rB (dIsi (.str s) .int) = .ok (.bl false) := rfl
theorem isi_st {s : Str} : rB (dIsi (.str s) .tuple) = .ok (.bl false) := rfl
theorem isi_sb {s : Str} : rB (dIsi (.str s) .bool) = .ok (.bl false) := rfl
/-! what is walked -/
theorem it_t {xs : List D} : items .seq [.tup xs] = .ok xs := rfl
theorem it_l {xs : List D} : items .seq [.lst xs] = .ok xs := rfl
theorem small62_of (h0 : -1073741824 ≤ i) (h1 : i < 1073741824) : small62 i = true := by
  unfold small62
  rw [decide_eq_true (show -(2 ^ 30) ≤ i by omega), decide_eq_true (show i < 2 ^ 30 by omega)]
  rfl
theorem it_r1 (h0 : -1073741824 ≤ i) (h1 : i < 1073741824) : items .rng [.int i] = .ok (rgL 0 i.toNat) := if_pos (small62_of h0 h1)
theorem it_r2 (h0 : -1073741824 ≤ i) (h1 : i < 1073741824) (h2 : -1073741824 ≤ j) (h3 : j < 1073741824) : items .rng [.int i, .int j] = .ok (rgL i (j - i).toNat) := if_pos (by rw [small62_of h0 h1, small62_of h2 h3]; rfl)
theorem it_et {xs : List D} : items .enum [.tup xs] = .ok (enumL 0 xs) := rfl
theorem it_el {xs : List D} : items .enum [.lst xs] = .ok (enumL 0 xs) := rfl
theorem it_ztt {xs ys : List D} : items .zip [.tup xs, .tup ys] = .ok (zipL xs ys) := rfl
theorem it_zll {xs ys : List D} : items .zip [.lst xs, .lst ys] = .ok (zipL xs ys) := rfl
theorem it_ztl {xs ys : List D} : items .zip [.tup xs, .lst ys] = .ok (zipL xs ys) := rfl
theorem it_zlt {xs ys : List D} : items .zip [.lst xs, .tup ys] = .ok (zipL xs ys) := rfl
end
/-! ### comprehensions -/
def cdR : R D → R D → R (Option D)
  | .ok t, v => match truth t with
    | some true => match v with
      | .ok x => .ok (some x)
      | .exc c => .exc c
      | .bad => .bad
    | some false => .ok none
    | none => .bad
  | .exc c, _ => .exc c
  | .bad, _ => .bad
section
variable {c : Cf} {own : List Nat} {cond elt : E} {ρ : Rho} {d x y : D} {i j : Nat} {wf : Nat} {r body : List S}
theorem cd_eq {a b : R D} : (a.bind fun t => (rTruth t).bind fun v => match v with | true => b.bind fun x => .ok (some x) | false => R.ok (@none D)) = cdR a b := by
  cases a with
  | ok t =>
    show (rTruth t).bind _ = match truth t with | some true => (match b with | .ok x => .ok (some x) | .exc c => .exc c | .bad => .bad) | some false => .ok none | none => .bad
    unfold rTruth
    cases truth t with
    | none => rfl
    | some v => cases v <;> cases b <;> rfl
  | exc => rfl
  | bad => rfl
theorem lcFn_1 : lcFn c own (.one i) cond elt ρ d = cdR (ev c cond ((wipeR ρ own).set i (some d))) (ev c elt ((wipeR ρ own).set i (some d))) := cd_eq
theorem lcFn_2 : lcFn c own (.many [i, j]) cond elt ρ (.tup [x, y]) = cdR (ev c cond (((wipeR ρ own).set i (some x)).set j (some y))) (ev c elt (((wipeR ρ own).set i (some x)).set j (some y))) := cd_eq
theorem cdR_t : cdR (.ok (.bl true)) (.ok x) = .ok (some x) := rfl
theorem cdR_f {z : R D} : cdR (.ok (.bl false)) z = .ok none := rfl
theorem fm_none {α β : Type} : ∀ (l : List α), l.filterMap (fun _ => (none : Option β)) = []
  | [] => rfl
  | _ :: r => fm_none r
theorem cdR_b {t : Bool} : cdR (.ok (.bl t)) (.ok x) = .ok (if t = true then some x else none) := by cases t <;> rfl
theorem lcGo_fm {f : D → R (Option D)} {g : D → Option D} : ∀ {its : List D}, (∀ x ∈ its, f x = .ok (g x)) → lcGo f its = .ok (its.filterMap g)
  | [], _ => rfl
  | d :: ds, h => by
    rw [lcGo, h d List.mem_cons_self, lcGo_fm fun x hx => h x (List.mem_cons_of_mem _ hx), List.filterMap_cons]
    show R.ok _ = _
    cases g d <;> rfl
theorem lcS_fm {f : D → R (Option D)} {its : List D} (g : D → Option D) (hl : its.length ≤ 1000000) (h : ∀ x ∈ its, f x = .ok (g x)) : lcS f its = .ok (.lst (its.filterMap g)) := by
  unfold lcS
  rw [if_pos (show its.length ≤ LIM from hl), lcGo_fm h]
  rfl
theorem lcS_map {f : D → R (Option D)} {its : List D} (g : D → D) (hl : its.length ≤ 1000000) (h : ∀ x ∈ its, f x = .ok (some (g x))) : lcS f its = .ok (.lst (its.map g)) := by
  rw [lcS_fm (fun x => some (g x)) hl h]
  show R.ok (D.lst (its.filterMap (some ∘ g))) = _
  rw [List.filterMap_eq_map]
/-! ### statements -/
def kSet : R D → Nat → Cf → Nat → List S → Rho → R Fl
  | .ok d, i, c, wf, r, ρ => xss c wf r (ρ.set i (some d))
  | .exc x, _, _, _, _, _ => .exc x
  | .bad, _, _, _, _, _ => .bad
def kOwn : R D → Nat → Cf → Nat → List S → Rho → R Fl
  | .ok (.lst ds), i, c, wf, r, ρ => match ρ[i]? with
    | some _ => xss c wf r (ρ.set i (some (.lst ds)))
    | none => .bad
  | .ok _, _, _, _, _, _ => .bad
  | .exc x, _, _, _, _, _ => .exc x
  | .bad, _, _, _, _, _ => .bad
def kUnp : R D → List Nat → Cf → Nat → List S → Rho → R Fl
  | .ok d, is, c, wf, r, ρ => match seqOf d with
    | some ds => match setAll is ds ρ with
      | some ρ' => xss c wf r ρ'
      | none => .bad
    | none => .bad
  | .exc x, _, _, _, _, _ => .exc x
  | .bad, _, _, _, _, _ => .bad
def kApp : R D → R D → Nat → Cf → Nat → List S → Rho → R Fl
  | .ok d, .ok (.lst ds), i, c, wf, r, ρ => if ds.length < LIM then xss c wf r (ρ.set i (some (.lst (ds ++ [d])))) else .bad
  | .ok _, .ok _, _, _, _, _, _ => .bad
  | .ok _, .exc x, _, _, _, _, _ => .exc x
  | .ok _, .bad, _, _, _, _, _ => .bad
  | .exc x, _, _, _, _, _, _ => .exc x
  | .bad, _, _, _, _, _, _ => .bad
def kRet : R D → R Fl
  | .ok d => .ok (.rt d)
  | .exc x => .exc x
  | .bad => .bad
def kIf : R D → Cf → Nat → List S → List S → Rho → R Fl
  | .ok (.bl true), c, wf, a, _, ρ => xss c wf a ρ
  | .ok (.bl false), c, wf, _, b, ρ => xss c wf b ρ
  | .ok d, c, wf, a, b, ρ => match truth d with
    | some true => xss c wf a ρ
    | some false => xss c wf b ρ
    | none => .bad
  | .exc x, _, _, _, _, _ => .exc x
  | .bad, _, _, _, _, _ => .bad
def kSeq : R Fl → Cf → Nat → List S → R Fl
  | .ok (.nx ρ), c, wf, r => xss c wf r ρ
  | .ok (.rt d), _, _, _ => .ok (.rt d)
  | .exc x, _, _, _ => .exc x
  | .bad, _, _, _ => .bad
def forFn (c : Cf) (wf : Nat) (tg : Tg) (body : List S) (d : D) (ρ : Rho) : R Fl := match bindT tg d ρ with
  | some ρ' => xss c wf body ρ'
  | none => .bad
def kFor : R (List D) → Cf → Nat → Tg → List S → List S → Rho → R Fl
  | .ok its, c, wf, tg, body, r, ρ => kSeq (forGo (forFn c wf tg body) its ρ) c wf r
  | .exc x, _, _, _, _, _, _ => .exc x
  | .bad, _, _, _, _, _, _ => .bad
theorem xs_nil : xss c wf [] ρ = .ok (.nx ρ) := by rw [xss]
theorem xs_set {e : E} : xss c wf (.set i e :: r) ρ = kSet (ev c e ρ) i c wf r ρ := by
  rw [xss, xs]; cases ev c e ρ <;> rfl
theorem xs_own {e : E} : xss c wf (.own i e :: r) ρ = kOwn (ev c e ρ) i c wf r ρ := by
  rw [xss, xs]; cases ev c e ρ with
  | ok d => cases d with
    | lst ds =>
      show (match ρ[i]? with | some _ => R.ok (Fl.nx (ρ.set i (some (.lst ds)))) | none => .bad).bind _ = match ρ[i]? with | some _ => xss c wf r (ρ.set i (some (.lst ds))) | none => .bad
      cases ρ[i]? <;> rfl
    | _ => rfl
  | exc => rfl
  | bad => rfl
theorem xs_unp {e : E} {is : List Nat} : xss c wf (.unp is e :: r) ρ = kUnp (ev c e ρ) is c wf r ρ := by
  rw [xss, xs]; cases ev c e ρ with
  | ok d =>
    show R.bind (match seqOf d with | some ds => (match setAll is ds ρ with | some ρ' => R.ok (Fl.nx ρ') | none => .bad) | none => .bad) _ = match seqOf d with | some ds => (match setAll is ds ρ with | some ρ' => xss c wf r ρ' | none => .bad) | none => .bad
    cases seqOf d with
    | none => rfl
    | some ds =>
      show R.bind (match setAll is ds ρ with | some ρ' => R.ok (Fl.nx ρ') | none => .bad) _ = (match setAll is ds ρ with | some ρ' => xss c wf r ρ' | none => .bad)
      cases setAll is ds ρ <;> rfl
  | exc => rfl
  | bad => rfl
theorem xs_app {e : E} : xss c wf (.app i e :: r) ρ = kApp (ev c e ρ) (get ρ i) i c wf r ρ := by
  rw [xss, xs]; cases ev c e ρ with
  | ok d => cases get ρ i with
    | ok l => cases l with
      | lst ds =>
        show R.bind (if ds.length < LIM then R.ok (Fl.nx (ρ.set i (some (.lst (ds ++ [d]))))) else .bad) _ = if ds.length < LIM then xss c wf r (ρ.set i (some (.lst (ds ++ [d])))) else .bad
        by_cases h : ds.length < LIM
        · rw [if_pos h, if_pos h]; rfl
        · rw [if_neg h, if_neg h]; rfl
      | _ => rfl
    | exc => rfl
    | bad => rfl
  | exc => rfl
  | bad => rfl
theorem xs_frz : xss c wf (.frz i :: r) ρ = xss c wf r ρ := by rw [xss, xs]; rfl
theorem xs_pas : xss c wf (.pas :: r) ρ = xss c wf r ρ := by rw [xss, xs]; rfl
theorem xs_ret {e : E} : xss c wf (.ret e :: r) ρ = kRet (ev c e ρ) := by
  rw [xss, xs]; cases ev c e ρ <;> rfl
theorem xs_app_list : ∀ (a : List S) (ρ : Rho), xss c wf (a ++ r) ρ = kSeq (xss c wf a ρ) c wf r
  | [], ρ => by rw [xss]; rfl
  | s :: a, ρ => by
    rw [List.cons_append, xss, xss]
    cases xs c wf s ρ with
    | ok z => cases z with
      | nx ρ' => exact xs_app_list a ρ'
      | rt d => rfl
    | exc => rfl
    | bad => rfl
theorem xs_ife {e : E} {a b : List S} : xss c wf (.ife e a b :: r) ρ = kIf (ev c e ρ) c wf (a ++ r) (b ++ r) ρ := by
  rw [xss, xs]; cases ev c e ρ with
  | ok d =>
    have hs : ∀ a : List S, (xss c wf a ρ).bind (fun z => match z with | .nx ρ' => xss c wf r ρ' | .rt x => .ok (.rt x)) = xss c wf (a ++ r) ρ := fun a => by
      rw [xs_app_list]
      cases xss c wf a ρ with
      | ok z => cases z <;> rfl
      | exc => rfl
      | bad => rfl
    show R.bind (R.bind (rTruth d) fun v => match v with | true => xss c wf a ρ | false => xss c wf b ρ) _ = _
    unfold rTruth
    cases d with
    | bl t => cases t
              · exact hs b
              · exact hs a
    | non => exact hs b
    | ref _ => rfl
    | int i =>
      show R.bind (R.bind (match some (i != 0) with | some b => R.ok b | none => R.bad) fun v => match v with | true => xss c wf a ρ | false => xss c wf b ρ) _ = match some (i != 0) with | some true => xss c wf (a ++ r) ρ | some false => xss c wf (b ++ r) ρ | none => .bad
      cases (i != 0)
      · exact hs b
      · exact hs a
    | str s =>
      unfold kIf
      dsimp only
      cases truth (.str s) with
      | none => rfl
      | some t => cases t
                  · exact hs b
                  · exact hs a
    | tup s =>
      unfold kIf
      dsimp only
      cases truth (.tup s) with
      | none => rfl
      | some t => cases t
                  · exact hs b
                  · exact hs a
    | lst s =>
      unfold kIf
      dsimp only
      cases truth (.lst s) with
      | none => rfl
      | some t => cases t
                  · exact hs b
                  · exact hs a
  | exc => rfl
  | bad => rfl
theorem xs_for {tg : Tg} {k : Src} {ss : List E} : xss c wf (.for_ tg k ss body :: r) ρ = kFor (bit k (evs c ss ρ)) c wf tg body r ρ := by
  rw [xss, xs]; cases evs c ss ρ with
  | ok ys =>
    show R.bind (R.bind (items k ys) _) _ = kFor (items k ys) c wf tg body r ρ
    cases items k ys with
    | ok its =>
      show R.bind (forGo (forFn c wf tg body) its ρ) _ = kSeq (forGo (forFn c wf tg body) its ρ) c wf r
      cases forGo (forFn c wf tg body) its ρ with
      | ok z => cases z <;> rfl
      | exc => rfl
      | bad => rfl
    | exc => rfl
    | bad => rfl
  | exc => rfl
  | bad => rfl
theorem kSet_ok : kSet (.ok d) i c wf r ρ = xss c wf r (ρ.set i (some d)) := rfl
theorem kOwn_ok {ds : List D} (h : i < ρ.length) : kOwn (.ok (.lst ds)) i c wf r ρ = xss c wf r (ρ.set i (some (.lst ds))) := by
  unfold kOwn
  dsimp only
  rw [List.getElem?_eq_getElem h]
theorem kUnp_t {ds : List D} {is : List Nat} : kUnp (.ok (.tup ds)) is c wf r ρ = match setAll is ds ρ with | some ρ' => xss c wf r ρ' | none => .bad := rfl
theorem kUnp_l {ds : List D} {is : List Nat} : kUnp (.ok (.lst ds)) is c wf r ρ = match setAll is ds ρ with | some ρ' => xss c wf r ρ' | none => .bad := rfl
theorem kApp_ok {ds : List D} (h : ds.length < 1000000) : kApp (.ok d) (.ok (.lst ds)) i c wf r ρ = xss c wf r (ρ.set i (some (.lst (ds ++ [d])))) := if_pos h
theorem kRet_ok : kRet (.ok d) = .ok (.rt d) := rfl
theorem kIf_t {a b : List S} : kIf (.ok (.bl true)) c wf a b ρ = xss c wf a ρ := rfl
theorem kIf_f {a b : List S} : kIf (.ok (.bl false)) c wf a b ρ = xss c wf b ρ := rfl
theorem kSeq_n : kSeq (.ok (.nx ρ)) c wf r = xss c wf r ρ := rfl
theorem kSeq_r : kSeq (.ok (.rt d)) c wf r = .ok (.rt d) := rfl
theorem kFor_ok {its : List D} {tg : Tg} : kFor (.ok its) c wf tg body r ρ = kSeq (forGo (forFn c wf tg body) its ρ) c wf r := rfl
theorem forFn_1 : forFn c wf (.one i) body d ρ = xss c wf body (ρ.set i (some d)) := rfl
theorem forFn_2 : forFn c wf (.many [i, j]) body (.tup [x, y]) ρ = xss c wf body ((ρ.set i (some x)).set j (some y)) := rfl
theorem setAll_n : setAll [] [] ρ = some ρ := rfl
theorem setAll_c {is : List Nat} {ds : List D} : setAll (i :: is) (d :: ds) ρ = setAll is ds (ρ.set i (some d)) := rfl
theorem fin_r : finish (.ok (.rt d)) = .ok d := rfl
theorem fin_n : finish (.ok (.nx ρ)) = .ok .non := rfl
theorem wipe_n : wipeR ρ [] = ρ := rfl
theorem wipe_c {is : List Nat} : wipeR ρ (i :: is) = (wipeR ρ is).set i none := rfl
theorem go_nil {f : D → Rho → R Fl} : forGo f [] ρ = .ok (.nx ρ) := rfl
def kGo (f : D → Rho → R Fl) (ds : List D) : R Fl → R Fl
  | .ok (.nx ρ) => forGo f ds ρ
  | .ok (.rt d) => .ok (.rt d)
  | .exc x => .exc x
  | .bad => .bad
theorem go_cons {f : D → Rho → R Fl} {ds : List D} : forGo f (d :: ds) ρ = kGo f ds (f d ρ) := by
  rw [forGo]
  cases f d ρ with
  | ok z => cases z <;> rfl
  | exc => rfl
  | bad => rfl
theorem kGo_n {f : D → Rho → R Fl} {ds : List D} : kGo f ds (.ok (.nx ρ)) = forGo f ds ρ := rfl
theorem kGo_r {f : D → Rho → R Fl} {ds : List D} : kGo f ds (.ok (.rt d)) = .ok (.rt d) := rfl
/-- a loop that runs through: what it gathers, and the rest of the slots -/
theorem for_fold {α J : Type} {f : D → Rho → R Fl} (st : α → J → Rho) (g : α → D → α) : ∀ {its : List D} {a : α} {j : J}, (∀ a j x, x ∈ its → ∃ j', f x (st a j) = .ok (.nx (st (g a x) j'))) → ∃ j', forGo f its (st a j) = .ok (.nx (st (its.foldl g a) j'))
  | [], a, j, _ => ⟨j, rfl⟩
  | d :: ds, a, j, h => by
    obtain ⟨j1, e1⟩ := h a j d List.mem_cons_self
    obtain ⟨j2, e2⟩ := for_fold st g (its := ds) (a := g a d) (j := j1) fun a j x hx => h a j x (List.mem_cons_of_mem _ hx)
    exact ⟨j2, by rw [go_cons, e1]; exact e2⟩
/-- the same with a premise on what is gathered: I holds before each turn -/
theorem for_inv {α J : Type} {f : D → Rho → R Fl} (st : α → J → Rho) (I : List D → α → Prop) : ∀ {its : List D} {a : α} {j : J}, I its a → (∀ a j x r, I (x :: r) a → ∃ a' j', f x (st a j) = .ok (.nx (st a' j')) ∧ I r a') → ∃ a' j', forGo f its (st a j) = .ok (.nx (st a' j')) ∧ I [] a'
  | [], a, j, h0, _ => ⟨a, j, rfl, h0⟩
  | d :: ds, a, j, h0, h => by
    obtain ⟨a1, j1, e1, h1⟩ := h a j d ds h0
    obtain ⟨a2, j2, e2, h2⟩ := for_inv st I (its := ds) (a := a1) (j := j1) h1 h
    exact ⟨a2, j2, by rw [go_cons, e1]; exact e2, h2⟩
section
variable {its : List D} {tg : Tg} {α J : Type} (st : α → J → Rho) (I : List D → α → Prop) (a : α) (j : J) (hρ : ρ = st a j) (h0 : I its a)
  (h1 : ∀ a j x q, I (x :: q) a → ∃ a' j', forFn c wf tg body x (st a j) = .ok (.nx (st a' j')) ∧ I q a')
include hρ h0 h1
theorem loop_seq {z : R Fl} (h2 : ∀ a' j', I [] a' → xss c wf r (st a' j') = z) : kSeq (forGo (forFn c wf tg body) its ρ) c wf r = z := by
  subst hρ
  obtain ⟨a', j', e, hi⟩ := for_inv st I (j := j) h0 h1
  rw [e]
  exact h2 a' j' hi
theorem loop_fin {z : R D} (h2 : ∀ a' j', I [] a' → finish (xss c wf r (st a' j')) = z) : finish (kSeq (forGo (forFn c wf tg body) its ρ) c wf r) = z := by
  subst hρ
  obtain ⟨a', j', e, hi⟩ := for_inv st I (j := j) h0 h1
  rw [e]
  exact h2 a' j' hi
theorem loop_ex {Q : D → Prop} (h2 : ∀ a' j', I [] a' → ∃ d, finish (xss c wf r (st a' j')) = .ok d ∧ Q d) : ∃ d, finish (kSeq (forGo (forFn c wf tg body) its ρ) c wf r) = .ok d ∧ Q d := by
  subst hρ
  obtain ⟨a', j', e, hi⟩ := for_inv st I (j := j) h0 h1
  rw [e]
  exact h2 a' j' hi
end
end
end LC

set_option Elab.async false
set_option linter.all false
set_option maxRecDepth 100000
set_option maxHeartbeats 4000000
/-! LC: the makers of the laws, bits -/
namespace LC
open PySem L2
def mkD (way : Str) (head gap unit bits : Int) (low : Bool) (slip : Int) : D := .tup [.str way, .int head, .int gap, .int unit, .int bits, .bl low, .int slip]
section
variable {way : Str} {head gap unit b slip : Int} {low : Bool}
theorem mk_fold : D.tup [.str way, .int head, .int gap, .int unit, .int b, .bl low, .int slip] = mkD way head gap unit b low slip := rfl
theorem mk_0 : dIdx (mkD way head gap unit b low slip) (.int 0) = .ok (.str way) := ix_t0
theorem mk_1 : dIdx (mkD way head gap unit b low slip) (.int 1) = .ok (.int head) := ix_t1
theorem mk_2 : dIdx (mkD way head gap unit b low slip) (.int 2) = .ok (.int gap) := ix_t2
theorem mk_3 : dIdx (mkD way head gap unit b low slip) (.int 3) = .ok (.int unit) := ix_t3
theorem mk_4 : dIdx (mkD way head gap unit b low slip) (.int 4) = .ok (.int b) := ix_t4
theorem mk_5 : dIdx (mkD way head gap unit b low slip) (.int 5) = .ok (.bl low) := ix_t5
theorem mk_6 : dIdx (mkD way head gap unit b low slip) (.int 6) = .ok (.int slip) := ix_t6
theorem mk_c4 : dCut (mkD way head gap unit b low slip) none (some 4) = .ok (.tup [.str way, .int head, .int gap, .int unit]) := rfl
theorem mk_c5 : dCut (mkD way head gap unit b low slip) none (some 5) = .ok (.tup [.str way, .int head, .int gap, .int unit, .int b]) := rfl
theorem mk_d6 : dCut (mkD way head gap unit b low slip) (some 6) none = .ok (.tup [.int slip]) := rfl
theorem mk_u {is : List Nat} {c : Cf} {wf : Nat} {r : List S} {ρ : Rho} : kUnp (.ok (mkD way head gap unit b low slip)) is c wf r ρ = match setAll is [.str way, .int head, .int gap, .int unit, .int b, .bl low, .int slip] ρ with | some ρ' => xss c wf r ρ' | none => .bad := rfl
end
def WayOk (way : Str) : Prop := way = "far" ∨ way = "wide" ∨ way = "turn"
structure MkOk (most : Int) (way : Str) (head gap unit bits slip : Int) : Prop where
  way : WayOk way
  head1 : 1 ≤ head
  head2 : head ≤ 9999
  gap1 : 1 ≤ gap
  gap2 : gap ≤ 9999
  unit1 : 2 ≤ unit
  unit2 : unit ≤ 901
  bits1 : 1 ≤ bits
  bits2 : bits ≤ most
  slip0 : 0 ≤ slip
  slipu : 2 * slip < unit
  sliph : slip < head
  slipg : slip < gap
/-- the bits of x, the lowest first -/
def bitsL : Nat → Int → List Int
  | 0, _ => []
  | k + 1, x => x % 2 :: bitsL k (x / 2)
/-- their number -/
def numL : List Int → Int
  | [] => 0
  | b :: r => b + 2 * numL r
theorem bitsL_len : ∀ (k : Nat) (x : Int), (bitsL k x).length = k
  | 0, _ => rfl
  | k + 1, x => by rw [bitsL, List.length_cons, bitsL_len k]
theorem bitsL_01 : ∀ (k : Nat) (x : Int), ∀ b ∈ bitsL k x, b = 0 ∨ b = 1
  | 0, _, b, h => nomatch h
  | k + 1, x, b, h => by
    rw [bitsL] at h
    rcases List.mem_cons.mp h with rfl | h
    · omega
    · exact bitsL_01 k _ b h
theorem numL_bitsL : ∀ (k : Nat) (x : Int), 0 ≤ x → x < 2 ^ k → numL (bitsL k x) = x
  | 0, x, h1, h2 => by
    have h3 : (2 : Int) ^ 0 = 1 := rfl
    rw [h3] at h2
    show (0 : Int) = x
    omega
  | k + 1, x, h1, h2 => by
    rw [bitsL, numL, numL_bitsL k (x / 2) (by omega) (by rw [Int.pow_succ] at h2; omega)]
    omega
theorem bitsL_numL : ∀ (bs : List Int), (∀ b ∈ bs, b = 0 ∨ b = 1) → bitsL bs.length (numL bs) = bs
  | [], _ => rfl
  | b :: r, h => by
    have h1 := h b List.mem_cons_self
    have ih := bitsL_numL r fun x hx => h x (List.mem_cons_of_mem _ hx)
    rw [List.length_cons, numL, bitsL]
    rw [show (b + 2 * numL r) % 2 = b by omega, show (b + 2 * numL r) / 2 = numL r by omega, ih]
theorem numL_lt : ∀ (bs : List Int), (∀ b ∈ bs, b = 0 ∨ b = 1) → 0 ≤ numL bs ∧ numL bs < 2 ^ bs.length
  | [], _ => ⟨Int.le_refl _, by decide⟩
  | b :: r, h => by
    have h1 := h b List.mem_cons_self
    have ih := numL_lt r fun x hx => h x (List.mem_cons_of_mem _ hx)
    rw [List.length_cons, numL, Int.pow_succ]
    omega
theorem bitsL_get : ∀ (k : Nat) (x : Int) (i : Nat), i < k → (bitsL k x)[i]? = some (x / 2 ^ i % 2)
  | 0, x, i, h => by omega
  | k + 1, x, 0, h => by
    rw [bitsL, List.getElem?_cons_zero]
    show _ = some (x / 1 % 2)
    rw [Int.ediv_one]
  | k + 1, x, i + 1, h => by
    rw [bitsL, List.getElem?_cons_succ, bitsL_get k _ i (by omega), Int.pow_succ, Int.mul_comm, Int.ediv_ediv_of_nonneg (by decide)]
/-- Horner -/
theorem horner : ∀ (bs : List Int) (a : Int), (bs.reverse).foldl (fun t b => 2 * t + b) 0 = numL bs
  | [], _ => rfl
  | b :: r, a => by
    rw [List.reverse_cons, List.foldl_append, horner r a, numL]
    show 2 * numL r + b = _
    omega
theorem bitsL_inj {k : Nat} {x y : Int} (hx : 0 ≤ x) (hx2 : x < 2 ^ k) (hy : 0 ≤ y) (hy2 : y < 2 ^ k) (h : bitsL k x = bitsL k y) : x = y := by
  rw [← numL_bitsL k x hx hx2, h, numL_bitsL k y hy hy2]
theorem bitsL_zero : ∀ k : Nat, bitsL k 0 = List.replicate k 0
  | 0 => rfl
  | k + 1 => by rw [bitsL, List.replicate_succ, show (0 : Int) / 2 = 0 from rfl, bitsL_zero k]; rfl
theorem bitsL_ones : ∀ k : Nat, bitsL k (2 ^ k - 1) = List.replicate k 1
  | 0 => rfl
  | k + 1 => by
    rw [bitsL, List.replicate_succ, Int.pow_succ, show ((2 : Int) ^ k * 2 - 1) % 2 = 1 by omega, show ((2 : Int) ^ k * 2 - 1) / 2 = 2 ^ k - 1 by omega, bitsL_ones k]
/-- in the maker's order -/
def bitsM (low : Bool) (k : Nat) (x : Int) : List Int := if low = true then bitsL k x else (bitsL k x).reverse
theorem bitsM_len (low : Bool) (k : Nat) (x : Int) : (bitsM low k x).length = k := by
  unfold bitsM
  split
  · exact bitsL_len k x
  · rw [List.length_reverse, bitsL_len]
theorem bitsM_01 (low : Bool) (k : Nat) (x : Int) : ∀ b ∈ bitsM low k x, b = 0 ∨ b = 1 := by
  unfold bitsM
  intro b hb
  split at hb
  · exact bitsL_01 k x b hb
  · exact bitsL_01 k x b (List.mem_reverse.mp hb)
theorem bitsM_rev (low : Bool) (k : Nat) (x : Int) : (bitsM low k x).reverse = bitsM (!low) k x := by
  unfold bitsM
  cases low
  · rw [if_neg (by decide), if_pos (by decide), List.reverse_reverse]
  · rw [if_pos (by decide), if_neg (by decide)]
def numM (low : Bool) (bs : List Int) : Int := if low = true then numL bs else numL bs.reverse
theorem numM_bitsM (low : Bool) (k : Nat) (x : Int) (h1 : 0 ≤ x) (h2 : x < 2 ^ k) : numM low (bitsM low k x) = x := by
  unfold numM bitsM
  cases low
  · rw [if_neg (by decide), if_neg (by decide), List.reverse_reverse, numL_bitsL k x h1 h2]
  · rw [if_pos rfl, if_pos rfl, numL_bitsL k x h1 h2]
theorem bitsM_inj (low : Bool) {k : Nat} {x y : Int} (hx : 0 ≤ x) (hx2 : x < 2 ^ k) (hy : 0 ≤ y) (hy2 : y < 2 ^ k) (h : bitsM low k x = bitsM low k y) : x = y := by
  rw [← numM_bitsM low k x hx hx2, h, numM_bitsM low k y hy hy2]
theorem numM_swap (low : Bool) (k : Nat) (x : Int) : numM (!low) (bitsM low k x) = numM low (bitsM (!low) k x) := by
  unfold numM bitsM
  cases low
  · rw [if_pos (by decide), if_neg (by decide), if_neg (by decide), if_pos (by decide)]
  · rw [if_neg (by decide), if_pos (by decide), if_pos (by decide), if_neg (by decide)]
theorem horner_M (k : Nat) (x : Int) (h1 : 0 ≤ x) (h2 : x < 2 ^ k) : (bitsM false k x).foldl (fun t b => 2 * t + b) 0 = x := by
  unfold bitsM
  rw [if_neg (by decide), horner _ 0, numL_bitsL k x h1 h2]
theorem bitsM_zero (low : Bool) (k : Nat) : bitsM low k 0 = List.replicate k 0 := by
  unfold bitsM
  rw [bitsL_zero, List.reverse_replicate]
  cases low <;> rfl
theorem bitsM_ones (low : Bool) (k : Nat) : bitsM low k (2 ^ k - 1) = List.replicate k 1 := by
  unfold bitsM
  rw [bitsL_ones, List.reverse_replicate]
  cases low <;> rfl
theorem bits_even {k : Nat} {x : Int} (hk : 1 ≤ k) (hx : x % 2 = 0) : ∃ T : List Int, bitsL k x = 0 :: T ∧ bitsL k (x + 1) = 1 :: T ∧ T.length = k - 1 := by
  cases k with
  | zero => omega
  | succ k =>
    refine ⟨bitsL k (x / 2), by rw [bitsL, hx], ?_, by rw [bitsL_len]; omega⟩
    rw [bitsL, show (x + 1) % 2 = 1 by omega, show (x + 1) / 2 = x / 2 by omega]
def pick (t : Int) : D → Option D
  | .int i => if i = t then some (.int i) else none
  | _ => none
theorem rgL_zero (lo : Int) : rgL lo 0 = [] := rfl
theorem rgL_succ (lo : Int) (k : Nat) : rgL lo (k + 1) = rgL lo k ++ [.int (lo + k)] := by
  unfold rgL
  rw [List.range_succ, List.map_append]
  rfl
theorem rgL_len (lo : Int) (k : Nat) : (rgL lo k).length = k := by
  unfold rgL
  rw [List.length_map, List.length_range]
theorem rgL_mem {lo : Int} {k : Nat} {d : D} (h : d ∈ rgL lo k) : ∃ i : Nat, i < k ∧ d = .int (lo + i) := by
  unfold rgL at h
  obtain ⟨i, hi, rfl⟩ := List.mem_map.mp h
  exact ⟨i, List.mem_range.mp hi, rfl⟩
theorem pick_none (t : Int) : ∀ k : Nat, (k : Int) ≤ t → (rgL 0 k).filterMap (pick t) = []
  | 0, _ => rfl
  | k + 1, h => by
    rw [rgL_succ, List.filterMap_append, pick_none t k (by omega)]
    show ([D.int (0 + k)].filterMap (pick t)) = []
    rw [List.filterMap_cons]
    have : pick t (D.int (0 + k)) = none := if_neg (by omega)
    rw [this]
    rfl
theorem rg_pick (t : Int) (h0 : 0 ≤ t) : ∀ k : Nat, t < k → (rgL 0 k).filterMap (pick t) = [.int t]
  | 0, h => by omega
  | k + 1, h => by
    rw [rgL_succ, List.filterMap_append]
    by_cases hk : t < k
    · rw [rg_pick t h0 k hk, List.filterMap_cons]
      have : pick t (D.int (0 + k)) = none := if_neg (by omega)
      rw [this]
      rfl
    · rw [pick_none t k (by omega), List.filterMap_cons]
      have e : (0 : Int) + k = t := by omega
      have : pick t (D.int (0 + k)) = some (.int t) := by
        rw [e]
        exact if_pos rfl
      rw [this]
      rfl
theorem diff_at (low : Bool) {k : Nat} {x : Int} (hk : 1 ≤ k) (hx : x % 2 = 0) (j : Nat) (hj : j < k) : decide ((bitsM low k (x + 1)).getD j 0 = (bitsM low k x).getD j 0) = !decide ((j : Int) = if low = true then 0 else (k : Int) - 1) := by
  obtain ⟨T, h1, h2, h3⟩ := bits_even hk hx
  unfold bitsM
  rw [h1, h2]
  cases low
  · rw [if_neg (by decide), if_neg (by decide), if_neg (by decide), List.reverse_cons, List.reverse_cons]
    by_cases h : j = k - 1
    · subst h
      rw [← h3, ← List.length_reverse, List.getD_eq_getElem?_getD, List.getD_eq_getElem?_getD, List.getElem?_concat_length, List.getElem?_concat_length]
      rw [decide_eq_true (show ((T.reverse.length : Nat) : Int) = (k : Int) - 1 by rw [List.length_reverse]; omega)]
      rfl
    · rw [List.getD_eq_getElem?_getD, List.getD_eq_getElem?_getD, List.getElem?_append_left (by rw [List.length_reverse]; omega), List.getElem?_append_left (by rw [List.length_reverse]; omega)]
      rw [decide_eq_true rfl, decide_eq_false (show ¬ (j : Int) = (k : Int) - 1 by omega)]
      rfl
  · rw [if_pos rfl, if_pos rfl, if_pos rfl]
    cases j with
    | zero => rfl
    | succ j =>
      rw [decide_eq_false (show ¬ ((j + 1 : Nat) : Int) = 0 by omega)]
      exact decide_eq_true rfl
theorem pow_bits {b : Int} (h1 : 1 ≤ b) (h2 : b ≤ 12) : 2 ≤ (2 : Int) ^ b.toNat ∧ (2 : Int) ^ b.toNat ≤ 4096 := by
  obtain ⟨n, rfl⟩ : ∃ n : Nat, b = n := ⟨b.toNat, by omega⟩
  rw [Int.toNat_natCast]
  have h3 : n ≤ 12 := by omega
  have h4 : 1 ≤ n := by omega
  rcases n with _ | _ | _ | _ | _ | _ | _ | _ | _ | _ | _ | _ | _ | n <;> first | omega | exact ⟨by decide, by decide⟩
/-- the powers as the laws write them -/
theorem pow_list {b : Int} (h1 : 0 ≤ b) (h2 : b ≤ 12) : dIdx (.tup [.int 1, .int 2, .int 4, .int 8, .int 16, .int 32, .int 64, .int 128, .int 256, .int 512, .int 1024, .int 2048, .int 4096]) (.int b) = .ok (.int (2 ^ b.toNat)) := by
  obtain ⟨n, rfl⟩ : ∃ n : Nat, b = n := ⟨b.toNat, by omega⟩
  have h3 : n ≤ 12 := by omega
  rcases n with _ | _ | _ | _ | _ | _ | _ | _ | _ | _ | _ | _ | _ | n <;> first | omega | rfl
theorem pow_list2 {b : Int} (h1 : 0 ≤ b) (h2 : b ≤ 11) : dIdx (.tup [.int 1, .int 2, .int 4, .int 8, .int 16, .int 32, .int 64, .int 128, .int 256, .int 512, .int 1024, .int 2048]) (.int b) = .ok (.int (2 ^ b.toNat)) := by
  obtain ⟨n, rfl⟩ : ∃ n : Nat, b = n := ⟨b.toNat, by omega⟩
  have h3 : n ≤ 11 := by omega
  rcases n with _ | _ | _ | _ | _ | _ | _ | _ | _ | _ | _ | _ | n <;> first | omega | rfl
end LC

set_option Elab.async false
set_option linter.all false
set_option maxRecDepth 100000
set_option maxHeartbeats 4000000
/-! LC: the times of a row -/
namespace LC
open PySem L2
theorem bitsL_range (k : Nat) (x : Int) : bitsL k x = (List.range k).map fun i => x / 2 ^ i % 2 := by
  apply List.ext_getElem?
  intro i
  by_cases h : i < k
  · rw [bitsL_get k x i h, List.getElem?_map, List.getElem?_range h]
    rfl
  · rw [List.getElem?_eq_none (by rw [bitsL_len]; omega), List.getElem?_eq_none (by rw [List.length_map, List.length_range]; omega)]
def dI (f : Int → Int) : D → D
  | .int i => .int (f i)
  | d => d
theorem rg_map (f : Int → Int) (k : Nat) : (rgL 0 k).map (dI f) = ((List.range k).map fun i : Nat => f i).map D.int := by
  unfold rgL
  rw [List.map_map, List.map_map]
  apply List.map_congr_left
  intro i _
  show D.int (f (0 + i)) = D.int (f i)
  rw [Int.zero_add]
theorem bits_rg (k : Nat) (x : Int) : (rgL 0 k).map (dI fun i => x / 2 ^ i.toNat % 2) = (bitsL k x).map D.int := by
  rw [rg_map, bitsL_range]
  rfl
def farL (u : Int) : List Int → List Int
  | [] => [u]
  | b :: r => u :: (u + 2 * u * b) :: farL u r
def wideL (u : Int) : List Int → List Int
  | [] => []
  | [b] => [u + u * b]
  | b :: c :: r => (u + u * b) :: u :: wideL u (c :: r)
def turnL (u last : Int) : List Int → List Int
  | [] => [u]
  | b :: r => if b = last then u :: u :: turnL u b r else (2 * u) :: turnL u b r
def timesL (way : Str) (u : Int) (bs : List Int) : List Int :=
  if (way == "far") = true then farL u bs else if (way == "wide") = true then wideL u bs else u :: turnL u 0 (bs ++ [1])
def flashL (way : Str) (head gap u : Int) (bs : List Int) : List Int := head :: gap :: timesL way u bs
def ones : List Int → Int
  | [] => 0
  | b :: r => b + ones r
theorem ones_le : ∀ bs : List Int, (∀ b ∈ bs, b = 0 ∨ b = 1) → 0 ≤ ones bs ∧ ones bs ≤ bs.length
  | [], _ => ⟨Int.le_refl _, Int.le_refl _⟩
  | b :: r, h => by
    have h1 := h b List.mem_cons_self
    have h2 := ones_le r fun x hx => h x (List.mem_cons_of_mem _ hx)
    rw [ones, List.length_cons]
    omega
theorem ones_rep : ∀ k : Nat, ones (List.replicate k 1) = k
  | 0 => rfl
  | k + 1 => by
    rw [List.replicate_succ, ones, ones_rep k]
    omega
theorem sum_far (u : Int) : ∀ bs : List Int, (farL u bs).sum = (2 * bs.length + 1) * u + 2 * u * ones bs
  | [] => by
    show u + 0 = (2 * 0 + 1) * u + 2 * u * 0
    simp
  | b :: r => by
    rw [farL, List.sum_cons, List.sum_cons, sum_far u r, List.length_cons, ones]
    simp only [Int.natCast_add, Int.add_mul, Int.mul_add, Int.mul_assoc]
    simp only [Int.natCast_one]
    omega
theorem sum_wide (u : Int) : ∀ bs : List Int, bs ≠ [] → (wideL u bs).sum = (2 * bs.length - 1) * u + u * ones bs
  | [], h => absurd rfl h
  | [b], _ => by
    show u + u * b + 0 = (2 * 1 - 1) * u + u * (b + 0)
    simp
  | b :: c :: r, _ => by
    rw [wideL, List.sum_cons, List.sum_cons, sum_wide u (c :: r) (List.cons_ne_nil _ _)]
    simp only [List.length_cons, ones, Int.natCast_add, Int.add_mul, Int.mul_add, Int.sub_mul, Int.mul_assoc]
    simp only [Int.natCast_one]
    omega
theorem sum_turn (u : Int) : ∀ (bs : List Int) (last : Int), (turnL u last bs).sum = (2 * bs.length + 1) * u
  | [], _ => by
    show u + 0 = (2 * 0 + 1) * u
    simp
  | b :: r, last => by
    rw [turnL]
    split
    · rw [List.sum_cons, List.sum_cons, sum_turn u r b, List.length_cons]
      simp only [Int.natCast_add, Int.add_mul, Int.mul_add, Int.mul_assoc]
      simp only [Int.natCast_one]
      omega
    · rw [List.sum_cons, sum_turn u r b, List.length_cons]
      simp only [Int.natCast_add, Int.add_mul, Int.mul_add, Int.mul_assoc]
      simp only [Int.natCast_one]
      omega
theorem far_len (u : Int) : ∀ bs : List Int, (farL u bs).length = 2 * bs.length + 1
  | [] => rfl
  | b :: r => by rw [farL, List.length_cons, List.length_cons, far_len u r, List.length_cons]; omega
theorem wide_len (u : Int) : ∀ bs : List Int, bs ≠ [] → (wideL u bs).length = 2 * bs.length - 1
  | [], h => absurd rfl h
  | [b], _ => rfl
  | b :: c :: r, _ => by rw [wideL, List.length_cons, List.length_cons, wide_len u (c :: r) (List.cons_ne_nil _ _)]; simp only [List.length_cons]; omega
theorem turn_len (u : Int) : ∀ (bs : List Int) (last : Int), (turnL u last bs).length ≤ 2 * bs.length + 1 ∧ 1 ≤ (turnL u last bs).length
  | [], _ => ⟨Nat.le_refl _, Nat.le_refl _⟩
  | b :: r, last => by
    have := turn_len u r b
    rw [turnL]
    split <;> simp only [List.length_cons] <;> omega
theorem times_len (way : Str) (u : Int) (bs : List Int) : (timesL way u bs).length ≤ 2 * bs.length + 4 := by
  unfold timesL
  split
  · rw [far_len]; omega
  · split
    · cases bs with
      | nil => exact Nat.zero_le _
      | cons b r => rw [wide_len u _ (List.cons_ne_nil _ _)]; omega
    · have := (turn_len u (bs ++ [1]) 0).1
      rw [List.length_append] at this
      rw [List.length_cons]
      show _ ≤ _
      simp only [List.length_cons, List.length_nil] at this
      omega
theorem flash_len (way : Str) (head gap u : Int) (bs : List Int) : (flashL way head gap u bs).length ≤ 2 * bs.length + 6 := by
  unfold flashL
  have := times_len way u bs
  simp only [List.length_cons]
  omega
theorem pow11 {n : Nat} (h : n ≤ 11) : 1 ≤ (2 : Int) ^ n ∧ (2 : Int) ^ n ≤ 2048 := by
  rcases n with _ | _ | _ | _ | _ | _ | _ | _ | _ | _ | _ | _ | n <;> first | omega | exact ⟨by decide, by decide⟩
theorem WayOk.str {way : Str} (h : WayOk way) : shD 9 (.str way) = true := by
  rcases h with rfl | rfl | rfl <;> decide +kernel
theorem um2 (u b : Int) : u * (1 + 2 * b) = u + 2 * u * b := by
  rw [Int.mul_add, Int.mul_one, ← Int.mul_assoc, Int.mul_comm u 2]
theorem um1 (u b : Int) : u * (1 + b) = u + u * b := by
  rw [Int.mul_add, Int.mul_one]
def wideP (u : Int) : List Int → List Int
  | [] => []
  | b :: r => (u + u * b) :: u :: wideP u r
theorem wide_drop (u : Int) : ∀ bs : List Int, bs ≠ [] → (wideP u bs).dropLast = wideL u bs
  | [], h => absurd rfl h
  | [b], _ => rfl
  | b :: c :: r, _ => by
    rw [wideL, ← wide_drop u (c :: r) (List.cons_ne_nil _ _)]
    show ((u + u * b) :: u :: (u + u * c) :: u :: wideP u r).dropLast = (u + u * b) :: u :: ((u + u * c) :: u :: wideP u r).dropLast
    rw [List.dropLast_cons_cons, List.dropLast_cons_cons]
theorem wideP_app (u : Int) : ∀ as bs : List Int, wideP u (as ++ bs) = wideP u as ++ wideP u bs
  | [], _ => rfl
  | a :: as, bs => by
    show (u + u * a) :: u :: wideP u (as ++ bs) = _
    rw [wideP_app u as bs]
    rfl
theorem wideP_len (u : Int) : ∀ bs : List Int, (wideP u bs).length = 2 * bs.length
  | [] => rfl
  | b :: r => by
    show (wideP u r).length + 2 = 2 * (r.length + 1)
    rw [wideP_len u r]
    omega
theorem turnL_ne (u last : Int) (bs : List Int) : turnL u last bs ≠ [] := by
  cases bs with
  | nil => exact List.cons_ne_nil _ _
  | cons b r =>
    rw [turnL]
    split <;> exact List.cons_ne_nil _ _
theorem not_far {way : Str} (h : WayOk way) (h1 : (way == "far") = false) (h2 : (way == "wide") = false) : way = "turn" := by
  rcases h with rfl | rfl | rfl
  · exact absurd h1 (by decide +kernel)
  · exact absurd h2 (by decide +kernel)
  · rfl
/-- the longest -/
def longL (way : Str) (head gap u : Int) (k : Nat) : Int :=
  if (way == "far") = true then head + gap + (4 * (k : Int) + 1) * u else if (way == "wide") = true then head + gap + (3 * (k : Int) - 1) * u else head + gap + (2 * (k : Int) + 4) * u
theorem flash_sum_le (way : Str) (head gap u : Int) (bs : List Int) (hu : 0 ≤ u) (hb : ∀ b ∈ bs, b = 0 ∨ b = 1) (hn : bs ≠ []) : (flashL way head gap u bs).sum ≤ longL way head gap u bs.length := by
  have ho := ones_le bs hb
  have hm : u * ones bs ≤ u * bs.length := Int.mul_le_mul_of_nonneg_left ho.2 hu
  unfold flashL timesL longL
  rw [List.sum_cons, List.sum_cons]
  split
  · rw [sum_far]
    simp only [Int.add_mul, Int.mul_add, Int.mul_assoc, Int.one_mul]
    rw [Int.mul_comm (bs.length : Int) u]
    omega
  · split
    · rw [sum_wide _ _ hn]
      simp only [Int.add_mul, Int.mul_add, Int.sub_mul, Int.mul_assoc, Int.one_mul]
      rw [Int.mul_comm (bs.length : Int) u]
      omega
    · rw [List.sum_cons, sum_turn, List.length_append]
      simp only [Int.natCast_add, Int.add_mul, Int.mul_add, Int.mul_assoc, Int.one_mul, List.length_cons, List.length_nil]
      omega
theorem flash_sum_ones (way : Str) (head gap u : Int) (k : Nat) (hk : 1 ≤ k) : (flashL way head gap u (List.replicate k 1)).sum = longL way head gap u k := by
  unfold flashL timesL longL
  rw [List.sum_cons, List.sum_cons]
  split
  · rw [sum_far, ones_rep, List.length_replicate]
    simp only [Int.add_mul, Int.mul_add, Int.mul_assoc, Int.one_mul]
    rw [Int.mul_comm (k : Int) u]
    omega
  · split
    · rw [sum_wide _ _ (by intro z; have := congrArg List.length z; rw [List.length_replicate] at this; simp only [List.length_nil] at this; omega), ones_rep, List.length_replicate]
      simp only [Int.add_mul, Int.mul_add, Int.sub_mul, Int.mul_assoc, Int.one_mul]
      rw [Int.mul_comm (k : Int) u]
      omega
    · rw [List.sum_cons, sum_turn, List.length_append, List.length_replicate]
      simp only [Int.natCast_add, Int.add_mul, Int.mul_add, Int.mul_assoc, Int.one_mul, List.length_cons, List.length_nil]
      omega
end LC

set_option Elab.async false
set_option linter.all false
set_option maxRecDepth 100000
set_option maxHeartbeats 4000000
/-! LC: more statements; the turning lamp -/
namespace LC
open PySem L2
def kExt : R D → R D → Nat → Cf → Nat → List S → Rho → R Fl
  | .ok (.lst es), .ok (.lst ds), i, c, wf, r, ρ => if ds.length + es.length < LIM then xss c wf r (ρ.set i (some (.lst (ds ++ es)))) else .bad
  | .ok _, .ok _, _, _, _, _, _ => .bad
  | .ok _, .exc x, _, _, _, _, _ => .exc x
  | .ok _, .bad, _, _, _, _, _ => .bad
  | .exc x, _, _, _, _, _, _ => .exc x
  | .bad, _, _, _, _, _, _ => .bad
def kPut : R D → R D → R D → Nat → Cf → Nat → List S → Rho → R Fl
  | .ok d, .ok z, .ok l, i, c, wf, r, ρ => match l, z with
    | .lst ds, .int n => match setAt ds n d with
      | some es => xss c wf r (ρ.set i (some (.lst es)))
      | none => .bad
    | _, _ => .bad
  | .ok _, .ok _, .exc x, _, _, _, _, _ => .exc x
  | .ok _, .ok _, .bad, _, _, _, _, _ => .bad
  | .ok _, .exc x, _, _, _, _, _, _ => .exc x
  | .ok _, .bad, _, _, _, _, _, _ => .bad
  | .exc x, _, _, _, _, _, _, _ => .exc x
  | .bad, _, _, _, _, _, _, _ => .bad
section
variable {c : Cf} {ρ : Rho} {d x y : D} {i j : Nat} {wf : Nat} {r body : List S}
theorem xs_ext {e : E} : xss c wf (.ext i e :: r) ρ = kExt (ev c e ρ) (get ρ i) i c wf r ρ := by
  rw [xss, xs]; cases ev c e ρ with
  | ok d => cases get ρ i with
    | ok l => cases l with
      | lst ds => cases d with
        | lst es =>
          show R.bind (if ds.length + es.length < LIM then R.ok (Fl.nx (ρ.set i (some (.lst (ds ++ es))))) else .bad) _ = if ds.length + es.length < LIM then xss c wf r (ρ.set i (some (.lst (ds ++ es)))) else .bad
          by_cases h : ds.length + es.length < LIM
          · rw [if_pos h, if_pos h]; rfl
          · rw [if_neg h, if_neg h]; rfl
        | _ => rfl
      | _ => cases d <;> rfl
    | exc => cases d <;> rfl
    | bad => cases d <;> rfl
  | exc => rfl
  | bad => rfl
theorem xs_put {e k : E} : xss c wf (.put i k e :: r) ρ = kPut (ev c e ρ) (ev c k ρ) (get ρ i) i c wf r ρ := by
  rw [xss, xs]; cases ev c e ρ with
  | ok d => cases ev c k ρ with
    | ok z => cases get ρ i with
      | ok l =>
        show R.bind (match l, z with | .lst ds, .int n => (match setAt ds n d with | some es => R.ok (Fl.nx (ρ.set i (some (.lst es)))) | none => .bad) | _, _ => .bad) _ = match l, z with | .lst ds, .int n => (match setAt ds n d with | some es => xss c wf r (ρ.set i (some (.lst es))) | none => .bad) | _, _ => .bad
        cases l with
        | lst ds => cases z with
          | int n =>
            show R.bind (match setAt ds n d with | some es => R.ok (Fl.nx (ρ.set i (some (.lst es)))) | none => .bad) _ = match setAt ds n d with | some es => xss c wf r (ρ.set i (some (.lst es))) | none => .bad
            cases setAt ds n d <;> rfl
          | _ => rfl
        | _ => rfl
      | exc => rfl
      | bad => rfl
    | exc => rfl
    | bad => rfl
  | exc => rfl
  | bad => rfl
theorem kExt_ok {ds es : List D} (h : ds.length + es.length < 1000000) : kExt (.ok (.lst es)) (.ok (.lst ds)) i c wf r ρ = xss c wf r (ρ.set i (some (.lst (ds ++ es)))) := if_pos h
theorem setAt_last {xs : List D} : setAt (xs ++ [x]) (-1) d = some (xs ++ [d]) := by
  unfold setAt ixN
  rw [if_neg (by decide), if_pos (by rw [List.length_append]; simp only [List.length_cons, List.length_nil]; omega)]
  show some _ = _
  rw [show ((-1 : Int) + ((xs ++ [x]).length : Nat)).toNat = xs.length by rw [List.length_append]; simp only [List.length_cons, List.length_nil]; omega]
  dsimp only
  rw [List.set_append_right _ _ (Nat.le_refl _), Nat.sub_self]
  rfl
theorem kPut_last {xs : List D} : kPut (.ok d) (.ok (.int (-1))) (.ok (.lst (xs ++ [x]))) i c wf r ρ = xss c wf r (ρ.set i (some (.lst (xs ++ [d])))) := by
  unfold kPut
  dsimp only
  rw [setAt_last]
end
def halvesL : List Int → List Int
  | [] => []
  | b :: r => (1 - b) :: b :: halvesL r
theorem halves_len : ∀ bs : List Int, (halvesL bs).length = 2 * bs.length
  | [] => rfl
  | b :: r => by rw [halvesL, List.length_cons, List.length_cons, halves_len r, List.length_cons]; omega
theorem enumL_cons {i : Nat} {x : D} {r : List D} : enumL i (x :: r) = .tup [.int i, x] :: enumL (i + 1) r := rfl
theorem halves_app : ∀ as bs : List Int, halvesL (as ++ bs) = halvesL as ++ halvesL bs
  | [], _ => rfl
  | a :: as, bs => by
    show (1 - a) :: a :: halvesL (as ++ bs) = _
    rw [halves_app as bs]
    rfl
/-- runs, each as so many units -/
def rl (u : Int) : Int → Int → List Int → List Int
  | _, t, [] => [t]
  | prev, t, h :: r => if prev = h then rl u h (t + u) r else t :: rl u h u r
theorem rl_turn (u : Int) : ∀ (q : List Int) (last : Int), (last = 0 ∨ last = 1) → (∀ b ∈ q, b = 0 ∨ b = 1) → rl u last u (halvesL q) = turnL u last q
  | [], _, _, _ => rfl
  | b :: r, last, hl, hb => by
    have h1 := hb b List.mem_cons_self
    have ih := rl_turn u r b h1 fun x hx => hb x (List.mem_cons_of_mem _ hx)
    rw [halvesL, turnL, rl, rl]
    by_cases h : b = last
    · rw [if_neg (by omega), if_pos h, rl, if_neg (by omega), ih]
    · rw [if_pos (by omega), if_neg h, if_neg (by omega), ih]
      congr 1
      omega
theorem turn_par (u : Int) : ∀ (q : List Int) (last : Int), (last = 0 ∨ last = 1) → (∀ b ∈ q, b = 0 ∨ b = 1) → (turnL u last (q ++ [1])).length % 2 = last.toNat
  | [], last, hl, _ => by
    rw [List.nil_append, turnL, turnL]
    rcases hl with rfl | rfl
    · rw [if_neg (by decide), List.length_cons, List.length_cons, List.length_nil]
      rfl
    · rw [if_pos rfl, List.length_cons, List.length_cons, List.length_cons, List.length_nil]
      rfl
  | b :: r, last, hl, hb => by
    have h1 := hb b List.mem_cons_self
    have ih := turn_par u r b h1 fun x hx => hb x (List.mem_cons_of_mem _ hx)
    rw [List.cons_append, turnL]
    by_cases h : b = last
    · rw [if_pos h, List.length_cons, List.length_cons]
      subst h
      omega
    · rw [if_neg h, List.length_cons]
      omega
theorem flash_par (way : Str) (head gap u : Int) (bs : List Int) (hb : ∀ b ∈ bs, b = 0 ∨ b = 1) (hn : bs ≠ []) : (flashL way head gap u bs).length % 2 = 1 := by
  unfold flashL timesL
  rw [List.length_cons, List.length_cons]
  split
  · rw [far_len]; omega
  · split
    · rw [wide_len u bs hn]
      have : 1 ≤ bs.length := by
        cases bs with
        | nil => exact absurd rfl hn
        | cons => exact Nat.succ_le_succ (Nat.zero_le _)
      omega
    · have := turn_par u bs 0 (.inl rfl) hb
      rw [List.length_cons]
      have h0 : (0 : Int).toNat = 0 := rfl
      omega
theorem far_pos {u : Int} (hu : 0 < u) : ∀ bs : List Int, (∀ b ∈ bs, b = 0 ∨ b = 1) → ∀ t ∈ farL u bs, 0 < t
  | [], _, t, ht => by
    rw [farL] at ht
    simp only [List.mem_cons, List.not_mem_nil, or_false] at ht
    omega
  | b :: r, hb, t, ht => by
    have h1 := hb b List.mem_cons_self
    rw [farL] at ht
    rcases List.mem_cons.mp ht with rfl | ht
    · exact hu
    rcases List.mem_cons.mp ht with rfl | ht
    · rcases h1 with rfl | rfl
      · omega
      · omega
    · exact far_pos hu r (fun x hx => hb x (List.mem_cons_of_mem _ hx)) t ht
theorem wide_pos {u : Int} (hu : 0 < u) : ∀ bs : List Int, (∀ b ∈ bs, b = 0 ∨ b = 1) → ∀ t ∈ wideL u bs, 0 < t
  | [], _, t, ht => nomatch ht
  | [b], hb, t, ht => by
    have h1 := hb b List.mem_cons_self
    rw [wideL] at ht
    simp only [List.mem_cons, List.not_mem_nil, or_false] at ht
    rcases h1 with rfl | rfl
    · omega
    · omega
  | b :: c :: r, hb, t, ht => by
    have h1 := hb b List.mem_cons_self
    rw [wideL] at ht
    rcases List.mem_cons.mp ht with rfl | ht
    · rcases h1 with rfl | rfl
      · omega
      · omega
    rcases List.mem_cons.mp ht with rfl | ht
    · exact hu
    · exact wide_pos hu (c :: r) (fun x hx => hb x (List.mem_cons_of_mem _ hx)) t ht
theorem turn_pos {u : Int} (hu : 0 < u) : ∀ (bs : List Int) (last : Int), ∀ t ∈ turnL u last bs, 0 < t
  | [], _, t, ht => by
    rw [turnL] at ht
    simp only [List.mem_cons, List.not_mem_nil, or_false] at ht
    omega
  | b :: r, last, t, ht => by
    rw [turnL] at ht
    split at ht
    · rcases List.mem_cons.mp ht with rfl | ht
      · exact hu
      rcases List.mem_cons.mp ht with rfl | ht
      · exact hu
      · exact turn_pos hu r b t ht
    · rcases List.mem_cons.mp ht with rfl | ht
      · omega
      · exact turn_pos hu r b t ht
theorem flash_pos {way : Str} {head gap u : Int} (hh : 0 < head) (hg : 0 < gap) (hu : 0 < u) (bs : List Int) (hb : ∀ b ∈ bs, b = 0 ∨ b = 1) : ∀ t ∈ flashL way head gap u bs, 0 < t := by
  intro t ht
  unfold flashL timesL at ht
  rcases List.mem_cons.mp ht with rfl | ht
  · exact hh
  rcases List.mem_cons.mp ht with rfl | ht
  · exact hg
  split at ht
  · exact far_pos hu bs hb t ht
  · split at ht
    · exact wide_pos hu bs hb t ht
    · rcases List.mem_cons.mp ht with rfl | ht
      · exact hu
      · exact turn_pos hu _ _ t ht
end LC

set_option Elab.async false
set_option linter.all false
set_option maxRecDepth 100000
set_option maxHeartbeats 4000000
/-! LC: hearing -/
namespace LC
open PySem L2
def ab (i : Int) : Int := if i < 0 then -i else i
theorem ab_le {i s : Int} : ab i ≤ s ↔ -s ≤ i ∧ i ≤ s := by
  unfold ab
  split <;> omega
theorem ab_nn (i : Int) : 0 ≤ ab i := by
  unfold ab
  split <;> omega
def maxD : List Int → Int
  | [] => 0
  | x :: r => maxL x r
theorem maxD_le {l : List Int} {s : Int} (hs : 0 ≤ s) : maxD l ≤ s ↔ ∀ x ∈ l, x ≤ s := by
  cases l with
  | nil => exact ⟨(fun _ _ h => nomatch h), fun _ => hs⟩
  | cons y r =>
    show maxL y r ≤ s ↔ _
    constructor
    · intro h x hx
      have h1 := maxL_le r y
      rcases List.mem_cons.mp hx with rfl | hx
      · omega
      · have := h1.2 x hx
        omega
    · intro h
      rcases maxL_mem r y with e | e
      · rw [e]
        exact h y List.mem_cons_self
      · exact h _ (List.mem_cons_of_mem _ e)
def diffs (a b : List Int) : List Int := List.zipWith (fun x y => ab (x - y)) a b
def offL (a b : List Int) : Option Int := if a.length = b.length then some (maxD (diffs a b)) else none
/-- within s, place by place -/
def near (s : Int) : List Int → List Int → Prop
  | [], [] => True
  | x :: a, y :: b => (-s ≤ x - y ∧ x - y ≤ s) ∧ near s a b
  | _, _ => False
theorem near_len {s : Int} : ∀ {a b : List Int}, near s a b → a.length = b.length
  | [], [], _ => rfl
  | _ :: a, _ :: b, h => by rw [List.length_cons, List.length_cons, near_len h.2]
  | [], _ :: _, h => h.elim
  | _ :: _, [], h => h.elim
theorem near_iff {s : Int} : ∀ {a b : List Int}, near s a b ↔ a.length = b.length ∧ ∀ x ∈ diffs a b, x ≤ s
  | [], [] => ⟨fun _ => ⟨rfl, fun _ h => nomatch h⟩, fun _ => trivial⟩
  | x :: a, y :: b => by
    have ih := near_iff (s := s) (a := a) (b := b)
    constructor
    · intro h
      refine ⟨near_len h, fun z hz => ?_⟩
      have hz' : z ∈ ab (x - y) :: diffs a b := hz
      rcases List.mem_cons.mp hz' with rfl | hz'
      · exact ab_le.mpr h.1
      · exact (ih.mp h.2).2 z hz'
    · rintro ⟨h1, h2⟩
      have h3 : ∀ z ∈ ab (x - y) :: diffs a b, z ≤ s := h2
      exact ⟨ab_le.mp (h3 _ List.mem_cons_self), ih.mpr ⟨by simpa using h1, fun z hz => h3 z (List.mem_cons_of_mem _ hz)⟩⟩
  | [], _ :: _ => ⟨fun h => h.elim, fun h => by simp at h⟩
  | _ :: _, [] => ⟨fun h => h.elim, fun h => by simp at h⟩
theorem off_near {s : Int} (hs : 0 ≤ s) {a b : List Int} : (∃ m, offL a b = some m ∧ m ≤ s) ↔ near s a b := by
  unfold offL
  rw [near_iff]
  by_cases h : a.length = b.length
  · rw [if_pos h]
    constructor
    · rintro ⟨m, e, hm⟩
      cases e
      exact ⟨h, (maxD_le hs).mp hm⟩
    · rintro ⟨_, h2⟩
      exact ⟨_, rfl, (maxD_le hs).mpr h2⟩
  · rw [if_neg h]
    exact ⟨fun ⟨_, e, _⟩ => (nomatch e), fun e => absurd e.1 h⟩
theorem near_self {s : Int} (hs : 0 ≤ s) : ∀ a : List Int, near s a a
  | [] => trivial
  | x :: a => ⟨by omega, near_self hs a⟩
/-- a bit by a time: long or short -/
def byL (c : Int) (ts : List Int) : List Int := ts.map fun t => if c < 2 * t then 1 else 0
def expL (u : Int) : Int → List Int → List Int
  | _, [] => []
  | v, t :: r => (if 3 * u < 2 * t then [v, v] else [v]) ++ expL u (1 - v) r
def someL (way : Str) (u : Int) (row : List Int) : List Int :=
  if (way == "far") = true then byL (4 * u) (evens (row.drop 2).tail) else if (way == "wide") = true then byL (3 * u) (evens (row.drop 2)) else ((evens (expL u 1 (row.drop 2)).tail).drop 1).dropLast
def nearL (way : Str) (u : Int) (k : Nat) (low : Bool) (row : List Int) : Option Int := if (someL way u row).length = k then some (numM low (someL way u row)) else none
def heardL (way : Str) (head gap u : Int) (k : Nat) (low : Bool) (slip : Int) (row : List Int) : Option Int := match nearL way u k low row with
  | none => none
  | some x => match offL (flashL way head gap u (bitsM low k x)) row with
    | none => none
    | some m => if slip < m then none else some x
theorem byL_01 {c : Int} {ts : List Int} : ∀ b ∈ byL c ts, b = 0 ∨ b = 1 := by
  intro b hb
  unfold byL at hb
  obtain ⟨t, _, rfl⟩ := List.mem_map.mp hb
  split
  · exact .inr rfl
  · exact .inl rfl
theorem expL_01 {u : Int} : ∀ (ts : List Int) (v : Int), (v = 0 ∨ v = 1) → ∀ b ∈ expL u v ts, b = 0 ∨ b = 1
  | [], _, _, b, hb => nomatch hb
  | t :: r, v, hv, b, hb => by
    rw [expL] at hb
    rcases List.mem_append.mp hb with hb | hb
    · have : b = v := by
        split at hb
        · simpa using hb
        · simpa using hb
      rw [this]
      exact hv
    · exact expL_01 r (1 - v) (by omega) b hb
theorem someL_01 {way : Str} {u : Int} {row : List Int} : ∀ b ∈ someL way u row, b = 0 ∨ b = 1 := by
  intro b hb
  unfold someL at hb
  split at hb
  · exact byL_01 b hb
  · split at hb
    · exact byL_01 b hb
    · have h1 := List.mem_of_mem_drop (List.dropLast_subset _ hb)
      exact expL_01 _ 1 (.inr rfl) b (List.mem_of_mem_tail (mem_evens _ _ h1))
theorem far_near {u s : Int} (hs : 2 * s < u) (hs0 : 0 ≤ s) : ∀ (bs ts : List Int), (∀ b ∈ bs, b = 0 ∨ b = 1) → near s (farL u bs) ts → byL (4 * u) (evens ts.tail) = bs
  | [], ts, _, h => by
    have := near_len h
    cases ts with
    | nil => rfl
    | cons t r =>
      cases r with
      | nil => rfl
      | cons => simp [farL] at this
  | b :: bs, ts, hb, h => by
    have h1 := hb b List.mem_cons_self
    rw [farL] at h
    cases ts with
    | nil => exact h.elim
    | cons t1 ts =>
      cases ts with
      | nil => exact h.2.elim
      | cons t2 ts =>
        have ih := far_near hs hs0 bs ts (fun x hx => hb x (List.mem_cons_of_mem _ hx)) h.2.2
        have h2 := h.2.1
        have hne : ts ≠ [] := fun z => by
          have := near_len h.2.2
          rw [z, far_len] at this
          simp at this
        obtain ⟨t3, ts', rfl⟩ : ∃ t3 ts', ts = t3 :: ts' := by
          cases ts with
          | nil => exact absurd rfl hne
          | cons a b => exact ⟨a, b, rfl⟩
        show byL (4 * u) (evens (t2 :: t3 :: ts')) = b :: bs
        show (if 4 * u < 2 * t2 then 1 else 0) :: byL (4 * u) (evens ts') = b :: bs
        rw [show byL (4 * u) (evens ts') = bs from ih]
        congr 1
        rcases h1 with rfl | rfl
        · rw [if_neg (by omega)]
        · rw [if_pos (by omega)]
theorem wide_near {u s : Int} (hs : 2 * s < u) (hs0 : 0 ≤ s) : ∀ (bs ts : List Int), (∀ b ∈ bs, b = 0 ∨ b = 1) → near s (wideL u bs) ts → byL (3 * u) (evens ts) = bs
  | [], ts, _, h => by
    have := near_len h
    cases ts with
    | nil => rfl
    | cons t r => simp [wideL] at this
  | [b], ts, hb, h => by
    have h1 := hb b List.mem_cons_self
    rw [wideL] at h
    cases ts with
    | nil => exact h.elim
    | cons t1 ts =>
      cases ts with
      | cons => exact h.2.elim
      | nil =>
        have h2 := h.1
        show [if 3 * u < 2 * t1 then (1 : Int) else 0] = [b]
        congr 1
        rcases h1 with rfl | rfl
        · rw [if_neg (by omega)]
        · rw [if_pos (by omega)]
  | b :: c :: bs, ts, hb, h => by
    have h1 := hb b List.mem_cons_self
    rw [wideL] at h
    cases ts with
    | nil => exact h.elim
    | cons t1 ts =>
      cases ts with
      | nil => exact h.2.elim
      | cons t2 ts =>
        have ih := wide_near hs hs0 (c :: bs) ts (fun x hx => hb x (List.mem_cons_of_mem _ hx)) h.2.2
        have h2 := h.1
        show (if 3 * u < 2 * t1 then 1 else 0) :: byL (3 * u) (evens ts) = b :: c :: bs
        rw [ih]
        congr 1
        rcases h1 with rfl | rfl
        · rw [if_neg (by omega)]
        · rw [if_pos (by omega)]
theorem turn_near {u s : Int} (hs : 2 * s < u) (hs0 : 0 ≤ s) : ∀ (q ts : List Int) (last : Int), (last = 0 ∨ last = 1) → (∀ b ∈ q, b = 0 ∨ b = 1) → near s (turnL u last q) ts → expL u last ts = last :: halvesL q
  | [], ts, last, hl, _, h => by
    rw [turnL] at h
    cases ts with
    | nil => exact h.elim
    | cons t ts =>
      cases ts with
      | cons => exact h.2.elim
      | nil =>
        have h1 := h.1
        rw [expL, if_neg (by omega)]
        rfl
  | b :: q, ts, last, hl, hb, h => by
    have h1 := hb b List.mem_cons_self
    rw [turnL] at h
    by_cases hbl : b = last
    · rw [if_pos hbl] at h
      cases ts with
      | nil => exact h.elim
      | cons t1 ts =>
        cases ts with
        | nil => exact h.2.elim
        | cons t2 ts =>
          have ih := turn_near hs hs0 q ts b h1 (fun x hx => hb x (List.mem_cons_of_mem _ hx)) h.2.2
          have g1 := h.1
          have g2 := h.2.1
          rw [expL, if_neg (by omega), expL, if_neg (by omega), show 1 - (1 - last) = b by omega, ih, halvesL, hbl]
          rfl
    · rw [if_neg hbl] at h
      cases ts with
      | nil => exact h.elim
      | cons t1 ts =>
        have ih := turn_near hs hs0 q ts b h1 (fun x hx => hb x (List.mem_cons_of_mem _ hx)) h.2
        have g1 := h.1
        rw [expL, if_pos (by omega), show 1 - last = b by omega, ih, halvesL, show 1 - b = last by omega]
        rfl
theorem evens_halves : ∀ q : List Int, evens (halvesL q).tail = q
  | [] => rfl
  | [b] => rfl
  | b :: c :: q => by
    have ih := evens_halves (c :: q)
    show b :: evens (c :: halvesL q) = b :: c :: q
    rw [show evens (c :: halvesL q) = c :: q from ih]
theorem some_near {way : Str} {head gap u s : Int} (hs : 2 * s < u) (hs0 : 0 ≤ s) {bs row : List Int} (hb : ∀ b ∈ bs, b = 0 ∨ b = 1) (h : near s (flashL way head gap u bs) row) : someL way u row = bs := by
  unfold flashL at h
  cases row with
  | nil => exact h.elim
  | cons t1 row =>
    cases row with
    | nil => exact h.2.elim
    | cons t2 ts =>
      have h2 := h.2.2
      unfold timesL at h2
      unfold someL
      show (if (way == "far") = true then byL (4 * u) (evens ts.tail) else if (way == "wide") = true then byL (3 * u) (evens ts) else ((evens (expL u 1 ts).tail).drop 1).dropLast) = bs
      by_cases hf : (way == "far") = true
      · rw [if_pos hf] at h2 ⊢
        exact far_near hs hs0 bs ts hb h2
      · rw [if_neg hf] at h2 ⊢
        by_cases hw : (way == "wide") = true
        · rw [if_pos hw] at h2 ⊢
          exact wide_near hs hs0 bs ts hb h2
        · rw [if_neg hw] at h2 ⊢
          cases ts with
          | nil => exact h2.elim
          | cons t ts =>
            have g1 := h2.1
            have hq : ∀ b ∈ bs ++ [1], b = 0 ∨ b = 1 := fun b hb2 => by
              rcases List.mem_append.mp hb2 with z | z
              · exact hb b z
              · exact .inr (by simpa using z)
            have e := turn_near hs hs0 (bs ++ [1]) ts 0 (.inl rfl) hq h2.2
            rw [expL, if_neg (by omega), show (1 : Int) - 1 = 0 from rfl, e]
            show (List.drop 1 (evens (halvesL (0 :: (bs ++ [1]))).tail)).dropLast = bs
            rw [evens_halves]
            show (bs ++ [1]).dropLast = bs
            rw [List.dropLast_concat]
theorem heard_iff {way : Str} {head gap u s : Int} {k : Nat} {low : Bool} (hs : 2 * s < u) (hs0 : 0 ≤ s) {row : List Int} {x : Int} : heardL way head gap u k low s row = some x ↔ (0 ≤ x ∧ x < 2 ^ k) ∧ near s (flashL way head gap u (bitsM low k x)) row := by
  constructor
  · intro h
    unfold heardL nearL at h
    by_cases hl : (someL way u row).length = k
    · rw [if_pos hl] at h
      dsimp only at h
      have h01 := someL_01 (way := way) (u := u) (row := row)
      have hx : 0 ≤ numM low (someL way u row) ∧ numM low (someL way u row) < 2 ^ k := by
        unfold numM
        split
        · rw [← hl]; exact numL_lt _ h01
        · rw [← hl, ← List.length_reverse]; exact numL_lt _ fun b hb => h01 b (List.mem_reverse.mp hb)
      cases hof : offL (flashL way head gap u (bitsM low k (numM low (someL way u row)))) row with
      | none => rw [hof] at h; exact nomatch h
      | some m =>
        rw [hof] at h
        dsimp only at h
        by_cases hm : s < m
        · rw [if_pos hm] at h; exact nomatch h
        · rw [if_neg hm] at h
          cases h
          exact ⟨hx, (off_near hs0).mp ⟨m, hof, by omega⟩⟩
    · rw [if_neg hl] at h
      exact nomatch h
  · rintro ⟨⟨h1, h2⟩, h3⟩
    have e := some_near hs hs0 (bitsM_01 low k x) h3
    unfold heardL nearL
    rw [e, if_pos (bitsM_len low k x)]
    dsimp only
    rw [numM_bitsM low k x h1 h2]
    obtain ⟨m, hm, hms⟩ := (off_near hs0).mpr h3
    rw [hm]
    dsimp only
    rw [if_neg (by omega)]
theorem heard_none {way : Str} {head gap u s : Int} {k : Nat} {low : Bool} (hs : 2 * s < u) (hs0 : 0 ≤ s) {row : List Int} (h : ∀ x, 0 ≤ x → x < 2 ^ k → ¬ near s (flashL way head gap u (bitsM low k x)) row) : heardL way head gap u k low s row = none := by
  cases hh : heardL way head gap u k low s row with
  | none => rfl
  | some x =>
    have := (heard_iff hs hs0).mp hh
    exact absurd this.2 (h x this.1.1 this.1.2)
/-- none, or a whole number -/
def oI : Option Int → D
  | none => .non
  | some x => .int x
theorem flash_inj {way : Str} {head gap u : Int} {k : Nat} {low : Bool} {x y : Int} (hu : 0 < u) (hx : 0 ≤ x) (hx2 : x < 2 ^ k) (hy : 0 ≤ y) (hy2 : y < 2 ^ k) (h : flashL way head gap u (bitsM low k x) = flashL way head gap u (bitsM low k y)) : x = y := by
  have e1 := some_near (way := way) (head := head) (gap := gap) (u := u) (s := 0) (by omega) (by omega) (bitsM_01 low k x) (near_self (by omega) _)
  have e2 := some_near (way := way) (head := head) (gap := gap) (u := u) (s := 0) (by omega) (by omega) (bitsM_01 low k y) (near_self (by omega) _)
  rw [h, e2] at e1
  exact bitsM_inj low hx hx2 hy hy2 e1.symm
theorem cut_lm {α : Type} {xs : List α} : cutL xs (some 1) (some (-1)) = (xs.drop 1).dropLast := by
  unfold cutL HT.sIx
  dsimp only
  rw [if_pos (show (-1 : Int) < 0 by decide), if_neg (show ¬ (1 : Int) < 0 by decide), List.dropLast_eq_take, List.length_drop]
  rw [show (1 : Int).toNat = 1 from rfl]
  cases xs with
  | nil => rfl
  | cons x r =>
    rw [show min 1 (x :: r).length = 1 by rw [List.length_cons]; omega]
    congr 1
    rw [List.length_cons]
    omega
section
variable {i j : Int} {a : Bool} {s : Str} {xs : List D} {o : Option Int}
theorem is_nn : dCmp .Is .non .non = .ok (.bl true) := rfl
theorem is_in : dCmp .Is (.int i) .non = .ok (.bl false) := rfl
theorem isn_nn : dCmp .IsNot .non .non = .ok (.bl false) := rfl
theorem isn_in : dCmp .IsNot (.int i) .non = .ok (.bl true) := rfl
theorem is_on : dCmp .Is (oI o) .non = .ok (.bl o.isNone) := by cases o <;> rfl
theorem isn_on : dCmp .IsNot (oI o) .non = .ok (.bl o.isSome) := by cases o <;> rfl
theorem sh_oI {n : Nat} : shD n (oI o) = true := by cases o <;> cases n <;> rfl
theorem deq_nn : deq .non .non = true := by unfold deq; rw [toPy, PyData.eqv]
theorem deq_ni : deq .non (.int i) = false := by unfold deq; rw [toPy, toPy, PyData.eqv]
theorem deq_in : deq (.int i) .non = false := by unfold deq; rw [toPy, toPy, PyData.eqv]
theorem deq_oi : deq (oI o) (.int i) = decide (o = some i) := by
  cases o with
  | none =>
    show deq .non (.int i) = _
    rw [deq_ni]
    exact (decide_eq_false fun z => nomatch z).symm
  | some x =>
    show deq (.int x) (.int i) = _
    rw [deq_ii]
    exact decide_eq_decide.mpr ⟨fun z => by rw [z], fun z => Option.some.inj z⟩
theorem deq_oo {p : Option Int} : deq (oI o) (oI p) = decide (o = p) := by
  cases p with
  | some x => exact deq_oi
  | none =>
    cases o with
    | none => exact deq_nn.trans (decide_eq_true rfl).symm
    | some y => exact deq_in.trans (decide_eq_false fun z => nomatch z).symm
theorem oI_s : oI (some i) = .int i := rfl
theorem oI_n : oI none = .non := rfl
end
theorem zipL_ints : ∀ a b : List Int, zipL (a.map D.int) (b.map D.int) = (a.zip b).map fun p => D.tup [.int p.1, .int p.2]
  | [], _ => by simp [zipL]
  | _ :: _, [] => by simp [zipL]
  | x :: a, y :: b => by
    show .tup [.int x, .int y] :: zipL (a.map D.int) (b.map D.int) = _
    rw [zipL_ints a b]
    rfl
theorem zipL_le : ∀ a b : List D, (zipL a b).length ≤ a.length
  | [], _ => Nat.zero_le _
  | _ :: _, [] => Nat.zero_le _
  | _ :: a, _ :: b => Nat.succ_le_succ (zipL_le a b)
def d2 (f : Int → Int → Int) : D → D
  | .tup [.int x, .int y] => .int (f x y)
  | d => d
theorem zip_map (f : Int → Int → Int) (a b : List Int) : (zipL (a.map D.int) (b.map D.int)).map (d2 f) = (List.zipWith f a b).map D.int := by
  rw [zipL_ints, List.map_map]
  induction a generalizing b with
  | nil => rfl
  | cons x a ih =>
    cases b with
    | nil => rfl
    | cons y b =>
      exact congrArg (List.cons _) (ih b)
theorem zipL_mem {a b : List Int} {d : D} (h : d ∈ zipL (a.map D.int) (b.map D.int)) : ∃ x y, x ∈ a ∧ y ∈ b ∧ d = .tup [.int x, .int y] := by
  rw [zipL_ints] at h
  obtain ⟨p, hp, rfl⟩ := List.mem_map.mp h
  obtain ⟨x, y⟩ := p
  have := List.of_mem_zip hp
  exact ⟨x, y, this.1, this.2, rfl⟩
theorem dI_ints (f : Int → Int) (a : List Int) : (a.map D.int).map (dI f) = (a.map f).map D.int := by
  rw [List.map_map, List.map_map]
  rfl
theorem maxD_bi {l : List Int} (h : l ≠ []) : dBi .max [.lst (l.map D.int)] = .ok (.int (maxD l)) := by
  cases l with
  | nil => exact absurd rfl h
  | cons x r => exact max_l
/-- walked by place -/
def enFM (g : Nat → D → Option D) : Nat → List D → List D
  | _, [] => []
  | i, x :: r => match g i x with
    | some y => y :: enFM g (i + 1) r
    | none => enFM g (i + 1) r
theorem lcGo_en {f : D → R (Option D)} {g : Nat → D → Option D} : ∀ (xs : List D) (s : Nat), (∀ i x, x ∈ xs → s ≤ i → i < s + xs.length → f (.tup [.int (i : Nat), x]) = .ok (g i x)) → lcGo f (enumL s xs) = .ok (enFM g s xs)
  | [], _, _ => rfl
  | x :: r, s, h => by
    rw [enumL, lcGo, h s x List.mem_cons_self (Nat.le_refl _) (by rw [List.length_cons]; omega), lcGo_en r (s + 1) fun i y hy h1 h2 => h i y (List.mem_cons_of_mem _ hy) (by omega) (by rw [List.length_cons]; omega)]
    rw [enFM]
    show R.ok _ = _
    cases g s x <;> rfl
theorem lcS_en {f : D → R (Option D)} (g : Nat → D → Option D) {xs : List D} (hl : xs.length ≤ 1000000) (h : ∀ i x, x ∈ xs → i < xs.length → f (.tup [.int (i : Nat), x]) = .ok (g i x)) : lcS f (enumL 0 xs) = .ok (.lst (enFM g 0 xs)) := by
  unfold lcS
  rw [if_pos (by rw [enumL_len]; exact hl), lcGo_en xs 0 fun i x hx _ h2 => h i x hx (by omega)]
  rfl
theorem evens_le {α : Type} : ∀ l : List α, (evens l).length ≤ l.length
  | [] => Nat.le_refl _
  | [_] => Nat.le_refl _
  | _ :: _ :: r => by
    have := evens_le r
    show (evens r).length + 1 ≤ r.length + 2
    omega
theorem exp_len (u : Int) : ∀ (ts : List Int) (v : Int), (expL u v ts).length ≤ 2 * ts.length
  | [], _ => Nat.le_refl _
  | t :: r, v => by
    have := exp_len u r (1 - v)
    rw [expL, List.length_append, List.length_cons]
    split
    · simp only [List.length_cons, List.length_nil]
      omega
    · simp only [List.length_cons, List.length_nil]
      omega
end LC

set_option Elab.async false
set_option linter.all false
set_option maxRecDepth 100000
set_option maxHeartbeats 4000000
/-! LC: several makers; rows that are off -/
namespace LC
open PySem L2
structure Mk where
  way : Str
  head : Int
  gap : Int
  unit : Int
  bits : Int
  low : Bool
  slip : Int
def Mk.d (m : Mk) : D := mkD m.way m.head m.gap m.unit m.bits m.low m.slip
structure Mk.Ok (m : Mk) : Prop where
  way : WayOk m.way
  bits1 : 1 ≤ m.bits
  bits2 : m.bits ≤ 1000
  unit1 : 2 ≤ m.unit
  unit2 : m.unit < 1000000
  slip0 : 0 ≤ m.slip
  slipu : 2 * m.slip < m.unit
def Mk.flash (m : Mk) (x : Int) : List Int := flashL m.way m.head m.gap m.unit (bitsM m.low m.bits.toNat x)
def Mk.heard (m : Mk) (row : List Int) : Option Int := heardL m.way m.head m.gap m.unit m.bits.toNat m.low m.slip row
theorem Mk.heard_iff {m : Mk} (h : m.Ok) {row : List Int} {x : Int} : m.heard row = some x ↔ (0 ≤ x ∧ x < 2 ^ m.bits.toNat) ∧ near m.slip (m.flash x) row := LC.heard_iff h.slipu h.slip0
def byDs : Nat → List Mk → List Int → List D
  | _, [], _ => []
  | i, m :: ms, row => match m.heard row with
    | some x => .tup [.int i, .int x] :: byDs (i + 1) ms row
    | none => byDs (i + 1) ms row
def gHeard (row : List Int) (i : Nat) : D → Option D
  | .tup [.str w, .int h, .int g, .int u, .int b, .bl l, .int s] => some (.tup [.int i, oI (heardL w h g u b.toNat l s row)])
  | _ => none
def prD : Nat → List Mk → List Int → List D
  | _, [], _ => []
  | i, m :: ms, row => .tup [.int i, oI (m.heard row)] :: prD (i + 1) ms row
theorem en_heard (row : List Int) : ∀ (ms : List Mk) (i : Nat), enFM (gHeard row) i (ms.map Mk.d) = prD i ms row
  | [], _ => rfl
  | m :: ms, i => by
    rw [List.map_cons, enFM, prD]
    show _ :: enFM (gHeard row) (i + 1) (ms.map Mk.d) = _
    rw [en_heard row ms (i + 1)]
    rfl
def gSome : D → Option D
  | .tup [a, .int x] => some (.tup [a, .int x])
  | _ => none
theorem fm_pr (row : List Int) : ∀ (ms : List Mk) (i : Nat), (prD i ms row).filterMap gSome = byDs i ms row
  | [], _ => rfl
  | m :: ms, i => by
    rw [prD, byDs, List.filterMap_cons, fm_pr row ms (i + 1)]
    cases m.heard row <;> rfl
theorem prD_mem {row : List Int} : ∀ {ms : List Mk} {i : Nat} {d : D}, d ∈ prD i ms row → ∃ (j : Nat) (o : Option Int), d = .tup [.int j, oI o]
  | [], _, _, h => nomatch h
  | m :: ms, i, d, h => by
    rw [prD] at h
    rcases List.mem_cons.mp h with rfl | h
    · exact ⟨i, _, rfl⟩
    · exact prD_mem h
theorem prD_len (row : List Int) : ∀ (ms : List Mk) (i : Nat), (prD i ms row).length = ms.length
  | [], _ => rfl
  | m :: ms, i => by rw [prD, List.length_cons, prD_len row ms, List.length_cons]
theorem byDs_sh (row : List Int) : ∀ (ms : List Mk) (i n : Nat), (byDs i ms row).all (shD (n + 1)) = true
  | [], _, _ => rfl
  | m :: ms, i, n => by
    rw [byDs]
    cases m.heard row with
    | none => exact byDs_sh row ms (i + 1) n
    | some x =>
      show ((D.tup [.int i, .int x]) :: byDs (i + 1) ms row).all (shD (n + 1)) = true
      rw [List.all_cons, byDs_sh row ms (i + 1) n, sh_tup, List.all_cons, List.all_cons, sh_int, sh_int]
      rfl
/-! the numbers that the laws draw -/
def drawnV (a k : Int) : Int := (((a + 104729 * k + 17) * 69621 % 2147483647) * ((a + 104729 * k + 17) * 69621 % 2147483647) + 3 * ((a + 104729 * k + 17) * 69621 % 2147483647) + k) % 2147483629
theorem drawnV_nn (a k : Int) : 0 ≤ drawnV a k := Int.emod_nonneg _ (by decide)
theorem drawnV_lt (a k : Int) : drawnV a k < 2147483629 := Int.emod_lt_of_pos _ (by decide)
/-! rows that are off -/
theorem near_add {s : Int} : ∀ (a o : List Int), a.length = o.length → (∀ x ∈ o, -s ≤ x ∧ x ≤ s) → near s a (List.zipWith (· + ·) a o)
  | [], [], _, _ => trivial
  | x :: a, y :: o, hl, h => by
    have h1 := h y List.mem_cons_self
    exact ⟨by dsimp only; omega, near_add a o (by simpa using hl) fun z hz => h z (List.mem_cons_of_mem _ hz)⟩
  | [], _ :: _, hl, _ => by simp at hl
  | _ :: _, [], hl, _ => by simp at hl
theorem ab_neg (x : Int) : ab (-x) = ab x := by
  unfold ab
  split <;> split <;> omega
theorem diffs_add : ∀ (a o : List Int), a.length = o.length → diffs a (List.zipWith (· + ·) a o) = o.map ab
  | [], [], _ => rfl
  | x :: a, y :: o, hl => by
    show ab (x - (x + y)) :: diffs a (List.zipWith (· + ·) a o) = ab y :: o.map ab
    rw [diffs_add a o (by simpa using hl), show x - (x + y) = -y by omega, ab_neg]
  | [], _ :: _, hl => by simp at hl
  | _ :: _, [], hl => by simp at hl
theorem diffs_self : ∀ a : List Int, diffs a a = List.replicate a.length 0
  | [] => rfl
  | x :: a => by
    show ab (x - x) :: diffs a a = _
    rw [diffs_self a, Int.sub_self]
    rfl
theorem maxL_zero : ∀ k : Nat, maxL 0 (List.replicate k 0) = 0
  | 0 => rfl
  | k + 1 => by
    rw [List.replicate_succ, maxL]
    exact maxL_zero k
theorem maxD_zero (k : Nat) : maxD (List.replicate k 0) = 0 := by
  cases k with
  | zero => rfl
  | succ k => exact maxL_zero k
theorem off_self (a : List Int) : offL a a = some 0 := by
  unfold offL
  rw [if_pos rfl, diffs_self, maxD_zero]
theorem diffs_len {a b : List Int} (h : a.length = b.length) : (diffs a b).length = a.length := by
  unfold diffs
  rw [List.length_zipWith]
  omega
theorem diffs_get {a b : List Int} {i : Nat} {x y : Int} (h1 : a[i]? = some x) (h2 : b[i]? = some y) : (diffs a b)[i]? = some (ab (x - y)) := by
  unfold diffs
  rw [List.getElem?_zipWith, h1, h2]
theorem near_get {s : Int} {a b : List Int} (h : near s a b) {i : Nat} {x y : Int} (h1 : a[i]? = some x) (h2 : b[i]? = some y) : -s ≤ x - y ∧ x - y ≤ s :=
  ab_le.mp ((near_iff.mp h).2 _ (List.mem_of_getElem? (diffs_get h1 h2)))
/-- the greatest is m: none is greater, and it is there -/
theorem maxD_eq {l : List Int} {m : Int} (hm : m ∈ l) (h : ∀ x ∈ l, x ≤ m) (h0 : 0 ≤ m) : maxD l = m := by
  have h1 := (maxD_le h0).mpr h
  have h2 : m ≤ maxD l := by
    cases l with
    | nil => exact nomatch hm
    | cons y r =>
      have := maxL_le r y
      show m ≤ maxL y r
      rcases List.mem_cons.mp hm with rfl | hm
      · exact this.1
      · exact this.2 m hm
  omega
theorem cut_m2 {α : Type} {xs : List α} : cutL xs none (some (-2)) = xs.take (xs.length - 2) := by
  unfold cutL HT.sIx
  dsimp only
  rw [if_pos (by omega), List.drop_zero, Nat.sub_zero]
  congr 1
  omega
/-- one place put otherwise -/
theorem put_get {α : Type} {l : List α} {i : Nat} (h : i < l.length) (x : α) : l.take i ++ (x :: l.drop (i + 1)) = l.set i x := by
  rw [List.set_eq_take_append_cons_drop, if_pos h]
theorem near_put {s R f : Int} {a b : List Int} {i : Nat} (hs : 0 ≤ s) (h : near s a b) (hR : a[i]? = some R) (hf : R - f = s + 1 ∨ R - f = -(s + 1)) : offL a (b.set i f) = some (s + 1) ∧ ¬ near s a (b.set i f) := by
  have hl := near_len h
  have hi : i < a.length := (List.getElem?_eq_some_iff.mp hR).1
  have hab : ab (R - f) = s + 1 := by
    unfold ab
    split <;> omega
  have hfi : (b.set i f)[i]? = some f := List.getElem?_set_self (by omega)
  have hm := List.mem_of_getElem? (diffs_get hR hfi)
  rw [hab] at hm
  constructor
  · unfold offL
    rw [if_pos (by rw [List.length_set]; exact hl)]
    congr 1
    refine maxD_eq hm (fun z hz => ?_) (by omega)
    obtain ⟨j, hj, rfl⟩ := List.getElem_of_mem hz
    have hjl : j < a.length := by
      rw [diffs_len (by rw [List.length_set]; exact hl)] at hj
      exact hj
    have g1 := List.getElem?_eq_getElem hjl
    have g2 := List.getElem?_eq_getElem (show j < (b.set i f).length by rw [List.length_set]; omega)
    have g3 := diffs_get g1 g2
    rw [List.getElem?_eq_getElem hj] at g3
    rw [Option.some.inj g3]
    by_cases hji : i = j
    · subst hji
      rw [hR] at g1
      rw [hfi] at g2
      rw [← Option.some.inj g1, ← Option.some.inj g2, hab]
      exact Int.le_refl _
    · rw [List.getElem?_set_ne hji] at g2
      have := near_get h g1 g2
      exact Int.le_trans (ab_le.mpr this) (by omega)
  · intro hn
    have := near_get hn hR hfi
    omega
theorem getD_some {l : List Int} {i : Nat} (h : i < l.length) : l[i]? = some (l.getD i 0) := by
  rw [List.getD_eq_getElem?_getD, List.getElem?_eq_getElem h]
  rfl
theorem zipAdd_getD {a b : List Int} {i : Nat} (h1 : i < a.length) (h2 : i < b.length) : (List.zipWith (· + ·) a b).getD i 0 = a.getD i 0 + b.getD i 0 := by
  rw [List.getD_eq_getElem?_getD, List.getElem?_zipWith, getD_some h1, getD_some h2]
  rfl
theorem len_zipAdd {a b : List Int} : (List.zipWith (· + ·) a b).length = min a.length b.length := List.length_zipWith
end LC

set_option Elab.async false
set_option linter.all false
set_option maxRecDepth 100000
set_option maxHeartbeats 4000000
/-! LC: loops by a property of the slots -/
namespace LC
open PySem L2
section
variable {c : Cf} {wf : Nat} {r body : List S} {its : List D} {tg : Tg} {ρ : Rho} (P : List D → Rho → Prop) (h0 : P its ρ) (h1 : ∀ x q ρ, P (x :: q) ρ → ∃ ρ', forFn c wf tg body x ρ = .ok (.nx ρ') ∧ P q ρ')
include h0 h1
theorem goP : ∃ ρ', forGo (forFn c wf tg body) its ρ = .ok (.nx ρ') ∧ P [] ρ' := by
  obtain ⟨a', j', e, hi⟩ := for_inv (α := Rho) (J := Unit) (f := forFn c wf tg body) (fun a _ => a) P (its := its) (a := ρ) (j := ()) h0 fun a j x q hp => by
    obtain ⟨ρ', e, h⟩ := h1 x q a hp
    exact ⟨ρ', (), e, h⟩
  exact ⟨a', e, hi⟩
theorem loopP_fin {z : R D} (h2 : ∀ ρ', P [] ρ' → finish (xss c wf r ρ') = z) : finish (kSeq (forGo (forFn c wf tg body) its ρ) c wf r) = z := by
  obtain ⟨ρ', e, h⟩ := goP P h0 h1
  rw [e]
  exact h2 ρ' h
theorem loopP_ex {Q : D → Prop} (h2 : ∀ ρ', P [] ρ' → ∃ d, finish (xss c wf r ρ') = .ok d ∧ Q d) : ∃ d, finish (kSeq (forGo (forFn c wf tg body) its ρ) c wf r) = .ok d ∧ Q d := by
  obtain ⟨ρ', e, h⟩ := goP P h0 h1
  rw [e]
  exact h2 ρ' h
theorem loopP_nx {Q : Rho → Prop} (h2 : ∀ ρ', P [] ρ' → ∃ ρ2, xss c wf r ρ' = .ok (.nx ρ2) ∧ Q ρ2) : ∃ ρ2, kSeq (forGo (forFn c wf tg body) its ρ) c wf r = .ok (.nx ρ2) ∧ Q ρ2 := by
  obtain ⟨ρ', e, h⟩ := goP P h0 h1
  rw [e]
  exact h2 ρ' h
end
theorem ix_l6i {a b c d e f q : Int} (h0 : 0 ≤ q) (h1 : q < 6) : dIdx (.lst [.int a, .int b, .int c, .int d, .int e, .int f]) (.int q) = .ok (.int ([a, b, c, d, e, f].getD q.toNat 0)) := ix_li (ns := [a, b, c, d, e, f]) h0 h1
theorem pow_list5 {b : Int} (h1 : 0 ≤ b) (h2 : b ≤ 5) : dIdx (.tup [.int 1, .int 2, .int 4, .int 8, .int 16, .int 32]) (.int b) = .ok (.int (2 ^ b.toNat)) := by
  obtain ⟨n, rfl⟩ : ∃ n : Nat, b = n := ⟨b.toNat, by omega⟩
  have h3 : n ≤ 5 := by omega
  rcases n with _ | _ | _ | _ | _ | _ | n <;> first | omega | rfl
theorem pow_list4 {b : Int} (h1 : 0 ≤ b) (h2 : b ≤ 4) : dIdx (.tup [.int 1, .int 2, .int 4, .int 8, .int 16]) (.int b) = .ok (.int (2 ^ b.toNat)) := by
  obtain ⟨n, rfl⟩ : ∃ n : Nat, b = n := ⟨b.toNat, by omega⟩
  have h3 : n ≤ 4 := by omega
  rcases n with _ | _ | _ | _ | _ | n <;> first | omega | rfl
/-- one place of a row put otherwise, as the laws write it -/
theorem put_ints {l : List Int} {i : Int} (h0 : 0 ≤ i) (h1 : i < l.length) (f : Int) : List.map D.int (l.take i.toNat) ++ (D.int f :: List.map D.int (l.drop (i + 1).toNat)) = (l.set i.toNat f).map D.int := by
  rw [← put_get (by omega) f, show (i + 1).toNat = i.toNat + 1 by omega]
  simp only [List.map_append, List.map_cons]
/-- the rows of the laws -/
def rowV (a most span : Int) : List Int := (List.range (1 + 2 * (a % most)).toNat).map fun k : Nat => 1 + drawnV a (20 + k) / 4 % span
/-- heard among the first i numbers -/
def upTo (o : Option Int) (i : Int) : Option Int := match o with
  | none => none
  | some x => if x < i then some x else none
theorem upTo_zero {o : Option Int} (h : ∀ x, o = some x → 0 ≤ x) : upTo o 0 = none := by
  cases o with
  | none => rfl
  | some x => exact if_neg (by have := h x rfl; omega)
theorem upTo_all {o : Option Int} {i : Int} (h : ∀ x, o = some x → x < i) : upTo o i = o := by
  cases o with
  | none => rfl
  | some x => exact if_pos (h x rfl)
theorem upTo_step {o : Option Int} {i : Int} : upTo o (i + 1) = if o = some i then some i else upTo o i := by
  cases o with
  | none =>
    rw [if_neg (fun z => nomatch z)]
    rfl
  | some x =>
    by_cases h : x = i
    · subst h
      rw [if_pos rfl]
      exact if_pos (by omega)
    · rw [if_neg fun z => h (Option.some.inj z)]
      unfold upTo
      dsimp only
      by_cases h2 : x < i
      · rw [if_pos h2, if_pos (by omega)]
      · rw [if_neg h2, if_neg (by omega)]
theorem isi_ob {o : Option Int} : rB (dIsi (oI o) .bool) = .ok (.bl false) := by cases o <;> rfl
end LC

set_option Elab.async false
set_option linter.all false
set_option maxRecDepth 100000
set_option maxHeartbeats 4000000
/-! LC: times scaled -/
namespace LC
open PySem L2
def scL (c : Int) (l : List Int) : List Int := l.map (· * c)
theorem scL_cons (c x : Int) (l : List Int) : scL c (x :: l) = (x * c) :: scL c l := rfl
theorem far_sc (u c : Int) : ∀ bs : List Int, farL (u * c) bs = scL c (farL u bs)
  | [] => rfl
  | b :: r => by
    rw [farL, farL, scL_cons, scL_cons, far_sc u c r, Int.add_mul, ← Int.mul_assoc, Int.mul_assoc (2 * u) c b, Int.mul_comm c b, ← Int.mul_assoc]
theorem wide_sc (u c : Int) : ∀ bs : List Int, wideL (u * c) bs = scL c (wideL u bs)
  | [] => rfl
  | [b] => by
    rw [wideL, wideL, scL_cons, Int.add_mul, Int.mul_assoc u c b, Int.mul_comm c b, ← Int.mul_assoc]
    rfl
  | b :: b' :: r => by
    rw [wideL, wideL, scL_cons, scL_cons, wide_sc u c (b' :: r), Int.add_mul, Int.mul_assoc u c b, Int.mul_comm c b, ← Int.mul_assoc]
theorem turn_sc (u c : Int) : ∀ (bs : List Int) (last : Int), turnL (u * c) last bs = scL c (turnL u last bs)
  | [], _ => rfl
  | b :: r, last => by
    rw [turnL, turnL]
    split
    · rw [scL_cons, scL_cons, turn_sc u c r b]
    · rw [scL_cons, turn_sc u c r b, Int.mul_assoc]
theorem flash_sc (way : Str) (h g u c : Int) (bs : List Int) : flashL way (h * c) (g * c) (u * c) bs = scL c (flashL way h g u bs) := by
  unfold flashL timesL
  rw [scL_cons, scL_cons]
  split
  · rw [far_sc]
  · split
    · rw [wide_sc]
    · rw [scL_cons, turn_sc]
theorem long_sc (way : Str) (h g u c : Int) (k : Nat) : longL way (h * c) (g * c) (u * c) k = c * longL way h g u k := by
  have e : ∀ a : Int, h * c + g * c + a * (u * c) = c * (h + g + a * u) := fun a => by
    rw [Int.mul_comm c, Int.add_mul (h + g) (a * u) c, Int.add_mul h g c, Int.mul_assoc]
  unfold longL
  split
  · exact e _
  · split
    · exact e _
    · exact e _
theorem ab_sc {c x : Int} (hc : 0 < c) : ab (x * c) = c * ab x := by
  unfold ab
  by_cases hx : x < 0
  · rw [if_pos hx, if_pos (Int.mul_neg_of_neg_of_pos hx hc), Int.mul_comm x c, Int.mul_neg]
  · rw [if_neg hx, if_neg (by have := Int.mul_nonneg (show 0 ≤ x by omega) (show 0 ≤ c by omega); omega), Int.mul_comm]
theorem diffs_sc {c : Int} (hc : 0 < c) : ∀ a b : List Int, diffs (scL c a) (scL c b) = (diffs a b).map (c * ·)
  | [], _ => rfl
  | _ :: _, [] => rfl
  | x :: a, y :: b => by
    show ab (x * c - y * c) :: diffs (scL c a) (scL c b) = (c * ab (x - y)) :: (diffs a b).map (c * ·)
    rw [diffs_sc hc a b, ← Int.sub_mul, ab_sc hc]
theorem maxL_sc {c : Int} (hc : 0 < c) : ∀ (l : List Int) (m : Int), maxL (c * m) (l.map (c * ·)) = c * maxL m l
  | [], _ => rfl
  | x :: r, m => by
    rw [List.map_cons, maxL, maxL]
    have hlt : (c * m < c * x) ↔ m < x := Int.mul_lt_mul_left hc
    by_cases h : x > m
    · rw [if_pos h, if_pos (hlt.mpr h), maxL_sc hc r x]
    · rw [if_neg h, if_neg (fun z => h (hlt.mp z)), maxL_sc hc r m]
theorem maxD_sc {c : Int} (hc : 0 < c) (l : List Int) : maxD (l.map (c * ·)) = c * maxD l := by
  cases l with
  | nil =>
    show (0 : Int) = c * 0
    rw [Int.mul_zero]
  | cons x r => exact maxL_sc hc r x
theorem near_sc {s c : Int} (hc : 0 < c) : ∀ {a b : List Int}, near (s * c) (scL c a) (scL c b) ↔ near s a b
  | [], [] => Iff.rfl
  | [], _ :: _ => Iff.rfl
  | _ :: _, [] => Iff.rfl
  | x :: a, y :: b => by
    have ih := near_sc (s := s) hc (a := a) (b := b)
    have h1 : -(s * c) ≤ x * c - y * c ↔ -s ≤ x - y := by
      rw [← Int.sub_mul, ← Int.neg_mul]
      exact Int.mul_le_mul_right hc
    have h2 : x * c - y * c ≤ s * c ↔ x - y ≤ s := by
      rw [← Int.sub_mul]
      exact Int.mul_le_mul_right hc
    show ((-(s * c) ≤ x * c - y * c ∧ x * c - y * c ≤ s * c) ∧ near (s * c) (scL c a) (scL c b)) ↔ ((-s ≤ x - y ∧ x - y ≤ s) ∧ near s a b)
    rw [h1, h2, ih]
theorem heard_sc {way : Str} {h g u s c : Int} {k : Nat} {low : Bool} (hs : 2 * s < u) (hs0 : 0 ≤ s) (hc : 0 < c) (row : List Int) : heardL way (h * c) (g * c) (u * c) k low (s * c) (scL c row) = heardL way h g u k low s row := by
  have hs2 : 2 * (s * c) < u * c := by
    rw [← Int.mul_assoc]
    exact Int.mul_lt_mul_of_pos_right hs hc
  have hs3 : 0 ≤ s * c := Int.mul_nonneg hs0 (by omega)
  apply Option.ext
  intro x
  rw [heard_iff hs2 hs3, heard_iff hs hs0, flash_sc, near_sc hc]
theorem scL_len (c : Int) (l : List Int) : (scL c l).length = l.length := List.length_map _
theorem off_sc {c : Int} (hc : 0 < c) {a b : List Int} (h : a.length = b.length) : offL (scL c a) (scL c b) = some (c * maxD (diffs a b)) ∧ offL a b = some (maxD (diffs a b)) := by
  unfold offL
  rw [if_pos (by rw [scL_len, scL_len]; exact h), if_pos h, diffs_sc hc, maxD_sc hc]
  exact ⟨rfl, rfl⟩
theorem s_far_wide : (("far" : Str) == ("wide" : Str)) = false := by decide +kernel
theorem s_far_turn : (("far" : Str) == ("turn" : Str)) = false := by decide +kernel
theorem s_wide_far : (("wide" : Str) == ("far" : Str)) = false := by decide +kernel
theorem s_wide_turn : (("wide" : Str) == ("turn" : Str)) = false := by decide +kernel
theorem s_turn_far : (("turn" : Str) == ("far" : Str)) = false := by decide +kernel
theorem s_turn_wide : (("turn" : Str) == ("wide" : Str)) = false := by decide +kernel
end LC

set_option Elab.async false
set_option linter.all false
set_option maxRecDepth 100000
set_option maxHeartbeats 4000000
/-! LC: the makers of a law, pairs -/
namespace LC
open PySem L2
/-- a maker as the laws draw it -/
def Mk.L (most : Int) (m : Mk) : Prop := MkOk most m.way m.head m.gap m.unit m.bits m.slip
theorem Mk.L.ok {most : Int} {m : Mk} (h : m.L most) (hm : most ≤ 1000) : m.Ok := by
  obtain ⟨h1, h2, h3, h4, h5, h6, h7, h8, h9, h10, h11, h12, h13⟩ := h
  exact ⟨h1, h8, by omega, h6, by omega, h10, h11⟩
theorem Mk_d (m : Mk) : m.d = mkD m.way m.head m.gap m.unit m.bits m.low m.slip := rfl
theorem mk_d {way : Str} {head gap unit b slip : Int} {low : Bool} : mkD way head gap unit b low slip = (Mk.mk way head gap unit b low slip).d := rfl
theorem ix_mk {ms : List Mk} {i : Int} (h0 : 0 ≤ i) (h1 : i < ms.length) : ∃ m, m ∈ ms ∧ ms[i.toNat]? = some m ∧ dIdx (.tup (ms.map Mk.d)) (.int i) = .ok m.d := by
  have hl : i.toNat < ms.length := by omega
  refine ⟨ms[i.toNat], List.getElem_mem hl, List.getElem?_eq_getElem hl, ?_⟩
  rw [ix_t h0 (by rw [List.length_map]; exact h1), getD_ix (by rw [List.length_map]; exact hl), List.getElem_map]
theorem way_ix (a : Int) : ∃ way, dIdx (.tup [.str "far", .str "wide", .str "turn"]) (.int (a % 3)) = .ok (.str way) ∧ WayOk way := by
  have w3 : a % 3 = 0 ∨ a % 3 = 1 ∨ a % 3 = 2 := by omega
  rcases w3 with h | h | h <;> rw [h]
  · exact ⟨"far", ix_t0, .inl rfl⟩
  · exact ⟨"wide", ix_t1, .inr (.inl rfl)⟩
  · exact ⟨"turn", ix_t2, .inr (.inr rfl)⟩
def pD (p : Int × Int) : D := .tup [.int p.1, .int p.2]
def byP : Nat → List Mk → List Int → List (Int × Int)
  | _, [], _ => []
  | i, m :: ms, row => match m.heard row with
    | some x => ((i : Int), x) :: byP (i + 1) ms row
    | none => byP (i + 1) ms row
theorem byDs_P (row : List Int) : ∀ (ms : List Mk) (i : Nat), byDs i ms row = (byP i ms row).map pD
  | [], _ => rfl
  | m :: ms, i => by
    rw [byDs, byP, byDs_P row ms (i + 1)]
    cases m.heard row <;> rfl
def one1 (i : Nat) : Option Int → List (Int × Int)
  | some x => [((i : Int), x)]
  | none => []
theorem byP_app (row : List Int) : ∀ (ms : List Mk) (m : Mk) (i : Nat), byP i (ms ++ [m]) row = byP i ms row ++ one1 (i + ms.length) (m.heard row)
  | [], m, i => by
    rw [List.nil_append, byP, byP, List.length_nil, Nat.add_zero]
    cases m.heard row <;> rfl
  | m' :: ms, m, i => by
    rw [List.cons_append, byP, byP, byP_app row ms m (i + 1), List.length_cons, show i + 1 + ms.length = i + (ms.length + 1) by omega]
    cases m'.heard row <;> rfl
theorem byP_mem {row : List Int} {p : Int × Int} : ∀ {ms : List Mk} {i : Nat}, p ∈ byP i ms row → ∃ (j : Nat) (m : Mk), p.1 = ((i + j : Nat) : Int) ∧ ms[j]? = some m ∧ m.heard row = some p.2
  | [], _, h => nomatch h
  | m :: ms, i, h => by
    rw [byP] at h
    have tl : p ∈ byP (i + 1) ms row → ∃ (j : Nat) (m' : Mk), p.1 = ((i + j : Nat) : Int) ∧ (m :: ms)[j]? = some m' ∧ m'.heard row = some p.2 := fun h => by
      obtain ⟨j, m', h1, h2, h3⟩ := byP_mem h
      exact ⟨j + 1, m', by rw [h1]; congr 1; omega, by rw [List.getElem?_cons_succ]; exact h2, h3⟩
    cases hh : m.heard row with
    | none =>
      rw [hh] at h
      exact tl h
    | some x =>
      rw [hh] at h
      rcases List.mem_cons.mp h with rfl | h
      · exact ⟨0, m, rfl, rfl, hh⟩
      · exact tl h
theorem byP_of {row : List Int} {x : Int} {m : Mk} : ∀ {ms : List Mk} {i j : Nat}, ms[j]? = some m → m.heard row = some x → (((i + j : Nat) : Int), x) ∈ byP i ms row
  | [], _, j, h, _ => by simp at h
  | m' :: ms, i, 0, h, hh => by
    have e : m' = m := by simpa using h
    subst e
    rw [byP, hh]
    exact List.mem_cons_self
  | m' :: ms, i, j + 1, h, hh => by
    rw [List.getElem?_cons_succ] at h
    have ih := byP_of (i := i + 1) h hh
    rw [show i + 1 + j = i + (j + 1) by omega] at ih
    rw [byP]
    cases m'.heard row with
    | none => exact ih
    | some _ => exact List.mem_cons_of_mem _ ih
theorem byP_len (row : List Int) : ∀ (ms : List Mk) (i : Nat), (byP i ms row).length ≤ ms.length
  | [], _ => Nat.le_refl _
  | m :: ms, i => by
    have := byP_len row ms (i + 1)
    rw [byP, List.length_cons]
    cases m.heard row with
    | none =>
      show (byP (i + 1) ms row).length ≤ _
      omega
    | some x =>
      show (byP (i + 1) ms row).length + 1 ≤ _
      omega
def fstD : D → D
  | .tup (d :: _) => d
  | d => d
theorem fst_map (l : List (Int × Int)) : (l.map pD).map fstD = (l.map (·.1)).map D.int := by
  rw [List.map_map, List.map_map]
  rfl
theorem any_intsD (x : Int) : ∀ l : List Int, ((l.map D.int).any fun z => deq z (.int x)) = decide (x ∈ l)
  | [] => by simp
  | y :: r => by
    rw [List.map_cons, List.any_cons, deq_ii, any_intsD x r, ← Bool.decide_or]
    exact decide_eq_decide.mpr (by
      rw [List.mem_cons]
      constructor
      · rintro (h | h)
        · exact .inl h.symm
        · exact .inr h
      · rintro (h | h)
        · exact .inl h.symm
        · exact .inr h)
theorem sh_pairs {n : Nat} : ∀ l : List (Int × Int), (l.map pD).all (shD (n + 1)) = true
  | [] => rfl
  | p :: r => by
    rw [List.map_cons, List.all_cons, sh_pairs r]
    unfold pD
    rw [sh_tup, List.all_cons, List.all_cons, sh_int, sh_int]
    rfl
theorem sh8_pairs (l : List (Int × Int)) : (l.map pD).all (shD 8) = true := sh_pairs l
theorem sh9_pt (l : List (Int × Int)) : shD 9 (.tup (l.map pD)) = true := sh_pairs l
theorem sh9_pl (l : List (Int × Int)) : shD 9 (.lst (l.map pD)) = true := sh_pairs l
theorem deq_pp {p q : Int × Int} : deq (pD p) (pD q) = decide (p = q) := by
  unfold pD
  rw [deq_tt, deqL_cons, deqL_cons, deqL_nil, deq_ii, deq_ii, Bool.and_true, ← Bool.decide_and]
  exact decide_eq_decide.mpr ⟨fun h => Prod.ext h.1 h.2, fun h => by rw [h]; exact ⟨rfl, rfl⟩⟩
theorem deqL_pairs : ∀ l m : List (Int × Int), deqL (l.map pD) (m.map pD) = decide (l = m)
  | [], [] => deqL_nil
  | [], _ :: _ => deqL_nc
  | _ :: _, [] => deqL_cn
  | x :: r, y :: q => by
    rw [List.map_cons, List.map_cons, deqL_cons, deq_pp, deqL_pairs r q, ← Bool.decide_and]
    exact decide_eq_decide.mpr (by simp)
theorem any_pairs (x : Int × Int) : ∀ l : List (Int × Int), ((l.map pD).any fun z => deq z (pD x)) = decide (x ∈ l)
  | [] => by simp
  | y :: r => by
    rw [List.map_cons, List.any_cons, deq_pp, any_pairs x r, ← Bool.decide_or]
    exact decide_eq_decide.mpr (by
      rw [List.mem_cons]
      constructor
      · rintro (h | h)
        · exact .inl h.symm
        · exact .inr h
      · rintro (h | h)
        · exact .inl h.symm
        · exact .inr h)
theorem upTo_one (i : Nat) {o : Option Int} {k : Int} : one1 i (upTo o (k + 1)) = one1 i (upTo o k) ++ (if o = some k then [((i : Int), k)] else []) := by
  cases o with
  | none =>
    rw [if_neg (fun z => nomatch z)]
    rfl
  | some x =>
    rw [upTo_step]
    by_cases h : x = k
    · subst h
      rw [if_pos rfl, if_pos rfl]
      have : upTo (some x) x = none := if_neg (by omega)
      rw [this]
      rfl
    · rw [if_neg fun z => h (Option.some.inj z), if_neg fun z => h (Option.some.inj z), List.append_nil]
end LC

set_option Elab.async false
set_option linter.all false
set_option maxRecDepth 100000
set_option maxHeartbeats 4000000
/-! LC: streams -/
namespace LC
open PySem L2
theorem lcGo_ex {f : D → R (Option D)} {Q : D → D → Prop} : ∀ {its : List D}, (∀ x ∈ its, ∃ y, f x = .ok (some y) ∧ Q x y) → ∃ ys, lcGo f its = .ok ys ∧ ys.length = its.length ∧ ∀ (i : Nat) (x y : D), its[i]? = some x → ys[i]? = some y → Q x y
  | [], _ => ⟨[], rfl, rfl, fun i x y h _ => by simp at h⟩
  | d :: ds, h => by
    obtain ⟨y, e, hq⟩ := h d List.mem_cons_self
    obtain ⟨ys, e2, hl, hqs⟩ := lcGo_ex fun x hx => h x (List.mem_cons_of_mem _ hx)
    refine ⟨y :: ys, ?_, by rw [List.length_cons, List.length_cons, hl], fun i x z h1 h2 => ?_⟩
    · rw [lcGo, e, e2]
      rfl
    · cases i with
      | zero =>
        rw [List.getElem?_cons_zero] at h1 h2
        cases h1
        cases h2
        exact hq
      | succ i =>
        rw [List.getElem?_cons_succ] at h1 h2
        exact hqs i x z h1 h2
theorem lcS_ex {f : D → R (Option D)} {Q : D → D → Prop} {its : List D} (hl : its.length ≤ 1000000) (h : ∀ x ∈ its, ∃ y, f x = .ok (some y) ∧ Q x y) : ∃ ys, lcS f its = .ok (.lst ys) ∧ ys.length = its.length ∧ ∀ (i : Nat) (x y : D), its[i]? = some x → ys[i]? = some y → Q x y := by
  obtain ⟨ys, e, h1, h2⟩ := lcGo_ex h
  refine ⟨ys, ?_, h1, h2⟩
  unfold lcS
  rw [if_pos (show its.length ≤ LIM from hl), e]
  rfl
theorem as_map {α : Type} {f : α → D} {P : α → Prop} : ∀ {ys : List D}, (∀ y ∈ ys, ∃ m, y = f m ∧ P m) → ∃ ms : List α, ys = ms.map f ∧ ∀ m ∈ ms, P m
  | [], _ => ⟨[], rfl, fun _ h => nomatch h⟩
  | y :: ys, h => by
    obtain ⟨m, rfl, hm⟩ := h y List.mem_cons_self
    obtain ⟨ms, rfl, hms⟩ := as_map fun z hz => h z (List.mem_cons_of_mem _ hz)
    refine ⟨m :: ms, rfl, fun x hx => ?_⟩
    rcases List.mem_cons.mp hx with rfl | hx
    · exact hm
    · exact hms x hx
theorem lcS_mk {α : Type} {f : D → R (Option D)} {its : List D} (g : α → D) {P : α → Prop} (hl : its.length ≤ 1000000) (h : ∀ x ∈ its, ∃ m, f x = .ok (some (g m)) ∧ P m) : ∃ ms : List α, lcS f its = .ok (.lst (ms.map g)) ∧ ms.length = its.length ∧ ∀ m ∈ ms, P m := by
  obtain ⟨ys, e, h1, h2⟩ := lcS_ex (Q := fun _ y => ∃ m, y = g m ∧ P m) hl fun x hx => by
    obtain ⟨m, e, hm⟩ := h x hx
    exact ⟨_, e, m, rfl, hm⟩
  obtain ⟨ms, rfl, hms⟩ := as_map (f := g) (P := P) (ys := ys) fun y hy => by
    obtain ⟨i, hi, rfl⟩ := List.getElem_of_mem hy
    exact h2 i its[i] _ (List.getElem?_eq_getElem (by omega)) (List.getElem?_eq_getElem hi)
  rw [List.length_map] at h1
  exact ⟨ms, e, h1, hms⟩
/-! by place and time -/
def enL (f : Nat → Int → Int) : Nat → List Int → List Int
  | _, [] => []
  | s, t :: r => f s t :: enL f (s + 1) r
def gI (f : Nat → Int → Int) (i : Nat) : D → Option D
  | .int t => some (.int (f i t))
  | _ => none
theorem en_ints (f : Nat → Int → Int) : ∀ (l : List Int) (s : Nat), enFM (gI f) s (l.map D.int) = (enL f s l).map D.int
  | [], _ => rfl
  | t :: r, s => by
    rw [List.map_cons, enFM, enL, List.map_cons]
    show _ :: enFM (gI f) (s + 1) (r.map D.int) = _
    rw [en_ints f r (s + 1)]
theorem enL_near {f : Nat → Int → Int} {c : Int} (h : ∀ i t, -c ≤ t - f i t ∧ t - f i t ≤ c) : ∀ (l : List Int) (s : Nat), near c l (enL f s l)
  | [], _ => trivial
  | t :: r, s => ⟨h s t, enL_near h r (s + 1)⟩
theorem enL_len (f : Nat → Int → Int) : ∀ (l : List Int) (s : Nat), (enL f s l).length = l.length
  | [], _ => rfl
  | t :: r, s => by rw [enL, List.length_cons, List.length_cons, enL_len f r]
/-! rows and streams -/
def rowD (r : List Int) : D := .tup (r.map D.int)
theorem rowD_eq (r : List Int) : D.tup (r.map D.int) = rowD r := rfl
def tailL (rest : Int) : List (List Int) → List Int
  | [] => []
  | r :: rs => rest :: (r ++ tailL rest rs)
def streamL (rest : Int) : List (List Int) → List Int
  | [] => []
  | r :: rs => r ++ tailL rest rs
def partL (rest : Int) : List Int → List Int → List (List Int)
  | acc, [] => [acc]
  | acc, [x] => [acc ++ [x]]
  | acc, x :: y :: r => if rest ≤ y then (acc ++ [x]) :: partL rest [] r else partL rest (acc ++ [x, y]) r
theorem tail_sum (rest : Int) : ∀ rs : List (List Int), (tailL rest rs).sum = (rs.map List.sum).sum + rest * rs.length
  | [] => by simp [tailL]
  | r :: rs => by
    rw [tailL, List.sum_cons, List.sum_append, tail_sum rest rs, List.map_cons, List.sum_cons, List.length_cons, Int.natCast_add, Int.mul_add]
    simp only [Int.natCast_one, Int.mul_one]
    omega
theorem stream_sum (rest : Int) (rs : List (List Int)) (h : rs ≠ []) : (streamL rest rs).sum = (rs.map List.sum).sum + rest * ((rs.length : Int) - 1) := by
  cases rs with
  | nil => exact absurd rfl h
  | cons r rs =>
    rw [streamL, List.sum_append, tail_sum, List.map_cons, List.sum_cons, List.length_cons, Int.natCast_add, show ((rs.length : Int) + ((1 : Nat) : Int) - 1) = rs.length by omega]
    omega
theorem part_row {rest : Int} : ∀ (row acc tl : List Int), row.length % 2 = 1 → (∀ t ∈ row, t < rest) → partL rest acc (row ++ rest :: tl) = (acc ++ row) :: partL rest [] tl
  | [], _, _, h, _ => by simp at h
  | [x], acc, tl, _, _ => by
    show partL rest acc (x :: rest :: tl) = _
    rw [partL, if_pos (Int.le_refl _)]
  | x :: y :: r, acc, tl, h, hr => by
    show partL rest acc (x :: y :: (r ++ rest :: tl)) = _
    have hy := hr y (List.mem_cons_of_mem _ List.mem_cons_self)
    rw [partL, if_neg (by omega), part_row r (acc ++ [x, y]) tl (by simp only [List.length_cons] at h; omega) fun t ht => hr t (List.mem_cons_of_mem _ (List.mem_cons_of_mem _ ht)), List.append_assoc]
    rfl
theorem part_last {rest : Int} : ∀ (row acc : List Int), row.length % 2 = 1 → (∀ t ∈ row, t < rest) → partL rest acc row = [acc ++ row]
  | [], _, h, _ => by simp at h
  | [x], acc, _, _ => by rw [partL]
  | x :: y :: r, acc, h, hr => by
    have hy := hr y (List.mem_cons_of_mem _ List.mem_cons_self)
    rw [partL, if_neg (by omega), part_last r (acc ++ [x, y]) (by simp only [List.length_cons] at h; omega) fun t ht => hr t (List.mem_cons_of_mem _ (List.mem_cons_of_mem _ ht)), List.append_assoc]
    rfl
theorem part_tail {rest : Int} : ∀ (r : List Int) (rs : List (List Int)), (∀ q ∈ r :: rs, q.length % 2 = 1 ∧ ∀ t ∈ q, t < rest) → partL rest [] (r ++ tailL rest rs) = r :: rs
  | r, [], h => by
    rw [tailL, List.append_nil, part_last r [] (h r List.mem_cons_self).1 (h r List.mem_cons_self).2, List.nil_append]
  | r, r' :: rs, h => by
    rw [tailL, part_row r [] _ (h r List.mem_cons_self).1 (h r List.mem_cons_self).2, part_tail r' rs fun q hq => h q (List.mem_cons_of_mem _ hq), List.nil_append]
theorem part_stream {rest : Int} {rs : List (List Int)} (hn : rs ≠ []) (h : ∀ q ∈ rs, q.length % 2 = 1 ∧ ∀ t ∈ q, t < rest) : partL rest [] (streamL rest rs) = rs := by
  cases rs with
  | nil => exact absurd rfl hn
  | cons r rs => exact part_tail r rs h
theorem sh_rows {n : Nat} : ∀ l : List (List Int), (l.map rowD).all (shD (n + 1)) = true
  | [] => rfl
  | p :: r => by
    rw [List.map_cons, List.all_cons, sh_rows r]
    unfold rowD
    rw [sh_tup, sh_ints]
    rfl
theorem sh8_rows (l : List (List Int)) : (l.map rowD).all (shD 8) = true := sh_rows l
theorem sh8_row (l : List Int) : shD 8 (rowD l) = true := sh_ints l
theorem sh9_row (l : List Int) : shD 9 (rowD l) = true := sh_ints l
theorem deq_rr {p q : List Int} : deq (rowD p) (rowD q) = decide (p = q) := by
  unfold rowD
  rw [deq_tt, deqL_ints]
theorem deqL_rows : ∀ l m : List (List Int), deqL (l.map rowD) (m.map rowD) = decide (l = m)
  | [], [] => deqL_nil
  | [], _ :: _ => deqL_nc
  | _ :: _, [] => deqL_cn
  | x :: r, y :: q => by
    rw [List.map_cons, List.map_cons, deqL_cons, deq_rr, deqL_rows r q, ← Bool.decide_and]
    exact decide_eq_decide.mpr (by simp)
theorem rgC_cons {a c : Int} {k : Nat} : rgC a c (k + 1) = .int a :: rgC (a + c) c k := by
  unfold rgC
  rw [List.range_succ_eq_map, List.map_cons, List.map_map]
  congr 1
  · simp
  · apply List.map_congr_left
    intro i _
    show D.int (a + ((i + 1 : Nat) : Int) * c) = D.int (a + c + (i : Int) * c)
    rw [Int.natCast_add, Int.add_mul]
    congr 1
    simp only [Int.natCast_one, Int.one_mul]
    omega
theorem it_r3 {i j k : Int} (h0 : -1073741824 ≤ i) (h1 : i < 1073741824) (h2 : -1073741824 ≤ j) (h3 : j < 1073741824) (h4 : 0 < k) (h5 : k < 1000) : items .rng [.int i, .int j, .int k] = .ok (rgC i k (if i < j then ((j - i - 1) / k + 1).toNat else 0)) :=
  if_pos (by rw [small62_of h0 h1, small62_of h2 h3, decide_eq_true ⟨h4, h5⟩]; rfl)
theorem part_len {rest : Int} : ∀ (s acc : List Int), (partL rest acc s).length ≤ s.length + 1
  | [], _ => Nat.le_refl _
  | [_], _ => by rw [partL]; simp
  | x :: y :: r, acc => by
    rw [partL]
    split
    · have := part_len (rest := rest) r []
      simp only [List.length_cons]
      omega
    · have := part_len (rest := rest) r (acc ++ [x, y])
      simp only [List.length_cons]
      omega
theorem part_rows {rest : Int} : ∀ (s acc : List Int), ∀ q ∈ partL rest acc s, q.length ≤ acc.length + s.length
  | [], acc, q, h => by
    rw [partL] at h
    rw [List.mem_singleton.mp h]
    omega
  | [x], acc, q, h => by
    rw [partL] at h
    rw [List.mem_singleton.mp h, List.length_append]
    omega
  | x :: y :: r, acc, q, h => by
    rw [partL] at h
    split at h
    · rcases List.mem_cons.mp h with rfl | h
      · simp only [List.length_append, List.length_cons, List.length_nil]
        omega
      · have := part_rows r [] q h
        simp only [List.length_cons, List.length_nil] at this ⊢
        omega
    · have := part_rows r (acc ++ [x, y]) q h
      simp only [List.length_append, List.length_cons, List.length_nil] at this ⊢
      omega
def gSaid (ms : List Mk) : D → D
  | .tup xs => match intsOf xs with
    | some r => .tup ((byP 0 ms r).map pD)
    | none => .non
  | d => d
theorem gSaid_row (ms : List Mk) (r : List Int) : gSaid ms (rowD r) = .tup ((byP 0 ms r).map pD) := by
  unfold gSaid rowD
  dsimp only
  rw [intsOf_map]
end LC

set_option Elab.async false
set_option linter.all false
set_option maxRecDepth 100000
set_option maxHeartbeats 4000000
/-! LC: rows of streams -/
namespace LC
open PySem L2
def dN (F : Nat → D) : D → D
  | .int i => F i.toNat
  | d => d
theorem rg_mapN (F : Nat → D) (k : Nat) : (rgL 0 k).map (dN F) = (List.range k).map F := by
  unfold rgL
  rw [List.map_map]
  apply List.map_congr_left
  intro i _
  show F ((0 : Int) + i).toNat = F i
  rw [show ((0 : Int) + i).toNat = i by omega]
def gRow (f : List Int → D) : D → D
  | .tup xs => match intsOf xs with
    | some r => f r
    | none => .non
  | d => d
theorem gRow_eq (f : List Int → D) (r : List Int) : gRow f (rowD r) = f r := by
  unfold gRow rowD
  dsimp only
  rw [intsOf_map]
theorem gRow_map (f : List Int → D) (l : List (List Int)) : (l.map rowD).map (gRow f) = l.map f := by
  rw [List.map_map]
  apply List.map_congr_left
  intro r _
  exact gRow_eq f r
theorem maxD_bit {l : List Int} (h : l ≠ []) : dBi .max [rowD l] = .ok (.int (maxD l)) := by
  cases l with
  | nil => exact absurd rfl h
  | cons x r => exact max_t
theorem le_maxD {l : List Int} {x : Int} (h : x ∈ l) : x ≤ maxD l := by
  cases l with
  | nil => exact nomatch h
  | cons y r =>
    have := maxL_le r y
    show x ≤ maxL y r
    rcases List.mem_cons.mp h with rfl | h
    · exact this.1
    · exact this.2 x h
theorem tail_len {rest : Int} {B : Nat} : ∀ rs : List (List Int), (∀ r ∈ rs, r.length ≤ B) → (tailL rest rs).length ≤ rs.length * (B + 1)
  | [], _ => Nat.zero_le _
  | r :: rs, h => by
    have h1 := h r List.mem_cons_self
    have h2 := tail_len (rest := rest) rs fun q hq => h q (List.mem_cons_of_mem _ hq)
    rw [tailL, List.length_cons, List.length_append, List.length_cons, Nat.succ_mul]
    omega
theorem stream_len {rest : Int} {B : Nat} (rs : List (List Int)) (h : ∀ r ∈ rs, r.length ≤ B) : (streamL rest rs).length ≤ rs.length * (B + 1) := by
  cases rs with
  | nil => exact Nat.zero_le _
  | cons r rs =>
    have h1 := h r List.mem_cons_self
    have h2 := tail_len (rest := rest) rs fun q hq => h q (List.mem_cons_of_mem _ hq)
    rw [streamL, List.length_append, List.length_cons, Nat.succ_mul]
    omega
theorem zipL_map {α : Type} (f g : α → D) : ∀ l : List α, zipL (l.map f) (l.map g) = l.map fun x => D.tup [f x, g x]
  | [] => rfl
  | x :: r => by
    show D.tup [f x, g x] :: zipL (r.map f) (r.map g) = _
    rw [zipL_map f g r]
    rfl
theorem sh9_p (p : Int × Int) : shD 9 (pD p) = true := by
  unfold pD
  rw [sh9t, List.all_cons, List.all_cons, sh_int, sh_int]
  rfl
theorem nin_pairs {p : Int × Int} {l : List (Int × Int)} : dCmp .NotIn (pD p) (.tup (l.map pD)) = .ok (.bl (!decide (p ∈ l))) := by
  rw [nin_tup (sh9_p p) (sh9_pt l), any_pairs]
theorem in_pairs {p : Int × Int} {l : List (Int × Int)} : dCmp .In (pD p) (.tup (l.map pD)) = .ok (.bl (decide (p ∈ l))) := by
  rw [in_tup (sh9_p p) (sh9_pt l), any_pairs]
theorem pD_eq (a b : Int) : D.tup [.int a, .int b] = pD (a, b) := rfl
theorem sum_r (s : List Int) : dBi .sum [rowD s] = .ok (.int s.sum) := sum_t
theorem len_r (s : List Int) : dBi .len [rowD s] = .ok (.int s.length) := by
  show R.ok (D.int ((s.map D.int).length : Nat)) = _
  rw [List.length_map]
end LC

set_option Elab.async false
set_option linter.all false
set_option maxRecDepth 100000
set_option maxHeartbeats 4000000
/-! LC: a lamp at a time -/
namespace LC
open PySem L2
def litL : Nat → List Int → Int → Bool
  | _, [], _ => false
  | s, m :: r, t => if t < m then decide ((s : Int) % 2 = 0) else litL (s + 1) r (t - m)
theorem lit_app {q : List Int} : ∀ (pre : List Int) (s : Nat) (t : Int), (∀ m ∈ pre, 0 ≤ m) → 0 ≤ t → litL s (pre ++ q) (pre.sum + t) = litL (s + pre.length) q t
  | [], s, t, _, _ => by rw [List.sum_nil, Int.zero_add]; rfl
  | m :: r, s, t, h, ht => by
    have h1 := h m List.mem_cons_self
    have h2 : 0 ≤ r.sum := by
      have : ∀ l : List Int, (∀ m ∈ l, 0 ≤ m) → 0 ≤ l.sum := fun l => by
        induction l with
        | nil => intro _; exact Int.le_refl _
        | cons a l ih =>
          intro h
          have := h a List.mem_cons_self
          have := ih fun m hm => h m (List.mem_cons_of_mem _ hm)
          rw [List.sum_cons]
          omega
      exact this r fun m hm => h m (List.mem_cons_of_mem _ hm)
    rw [List.cons_append, litL, List.sum_cons, if_neg (by omega), show m + r.sum + t - m = r.sum + t by omega, lit_app r (s + 1) t (fun m hm => h m (List.mem_cons_of_mem _ hm)) ht, List.length_cons, show s + 1 + r.length = s + (r.length + 1) by omega]
theorem lit_in {post : List Int} : ∀ (row : List Int) (s : Nat) (t : Int), 0 ≤ t → t < row.sum → litL s (row ++ post) t = litL s row t
  | [], _, t, h0, h1 => by
    rw [List.sum_nil] at h1
    omega
  | m :: r, s, t, h0, h1 => by
    rw [List.cons_append, litL, litL]
    by_cases h : t < m
    · rw [if_pos h, if_pos h]
    · rw [if_neg h, if_neg h]
      rw [List.sum_cons] at h1
      exact lit_in r (s + 1) (t - m) (by omega) (by omega)
theorem lit_two : ∀ (q : List Int) (s : Nat) (t : Int), litL (s + 2) q t = litL s q t
  | [], _, _ => rfl
  | m :: r, s, t => by
    rw [litL, litL, show s + 2 + 1 = s + 1 + 2 by omega, lit_two r (s + 1), show ((s + 2 : Nat) : Int) % 2 = (s : Int) % 2 by omega]
theorem lit_even (q : List Int) (t : Int) : ∀ s : Nat, litL (2 * s) q t = litL 0 q t
  | 0 => rfl
  | s + 1 => by rw [show 2 * (s + 1) = 2 * s + 2 by omega, lit_two, lit_even q t s]
def cntL (rest : Int) : List Int → Nat
  | [] => 0
  | [_] => 0
  | _ :: y :: r => (if rest ≤ y then 1 else 0) + cntL rest r
theorem part_cnt {rest : Int} : ∀ (s acc : List Int), (partL rest acc s).length = 1 + cntL rest s
  | [], _ => rfl
  | [_], _ => rfl
  | x :: y :: r, acc => by
    rw [partL, cntL]
    split
    · rw [List.length_cons, part_cnt r []]
      omega
    · rw [part_cnt r]
      omega
theorem cnt_anti {a b : Int} (h : a ≤ b) : ∀ s : List Int, cntL b s ≤ cntL a s
  | [] => Nat.le_refl _
  | [_] => Nat.le_refl _
  | x :: y :: r => by
    have := cnt_anti h r
    rw [cntL, cntL]
    split
    · rw [if_pos (by omega)]
      omega
    · split <;> omega
theorem cnt_row {rest : Int} : ∀ (row tl : List Int), row.length % 2 = 1 → 1 + cntL rest tl ≤ cntL rest (row ++ rest :: tl)
  | [], _, h => by simp at h
  | [x], tl, _ => by
    show 1 + cntL rest tl ≤ cntL rest (x :: rest :: tl)
    rw [cntL, if_pos (Int.le_refl _)]
    exact Nat.le_refl _
  | x :: y :: r, tl, h => by
    have := cnt_row (rest := rest) r tl (by simp only [List.length_cons] at h; omega)
    show 1 + cntL rest tl ≤ cntL rest (x :: y :: (r ++ rest :: tl))
    rw [cntL]
    omega
theorem cnt_tail {rest : Int} : ∀ (r : List Int) (rs : List (List Int)), (∀ q ∈ r :: rs, q.length % 2 = 1) → rs.length ≤ cntL rest (r ++ tailL rest rs)
  | r, [], h => Nat.zero_le _
  | r, r' :: rs, h => by
    have h1 := cnt_row (rest := rest) r (r' ++ tailL rest rs) (h r List.mem_cons_self)
    have h2 := cnt_tail (rest := rest) r' rs fun q hq => h q (List.mem_cons_of_mem _ hq)
    rw [tailL, List.length_cons]
    omega
theorem part_one : ∀ s : List Int, s.length % 2 = 1 → (∀ t ∈ s, 1 ≤ t) → partL 1 [] s = (evens s).map fun t => [t]
  | [], h, _ => by simp at h
  | [x], _, _ => rfl
  | x :: y :: r, h, hs => by
    rw [partL, if_pos (hs y (List.mem_cons_of_mem _ List.mem_cons_self)), part_one r (by simp only [List.length_cons] at h; omega) fun t ht => hs t (List.mem_cons_of_mem _ (List.mem_cons_of_mem _ ht))]
    rfl
theorem tail_app (rest : Int) : ∀ a b : List (List Int), tailL rest (a ++ b) = tailL rest a ++ tailL rest b
  | [], _ => rfl
  | r :: a, b => by
    rw [List.cons_append, tailL, tailL, tail_app rest a b, List.cons_append, List.append_assoc]
theorem tail_stream (rest : Int) {b : List (List Int)} (h : b ≠ []) : tailL rest b = rest :: streamL rest b := by
  cases b with
  | nil => exact absurd rfl h
  | cons r b => rfl
theorem stream_app (rest : Int) {a b : List (List Int)} (ha : a ≠ []) (hb : b ≠ []) : streamL rest (a ++ b) = streamL rest a ++ rest :: streamL rest b := by
  cases a with
  | nil => exact absurd rfl ha
  | cons r a =>
    rw [List.cons_append, streamL, streamL, tail_app, tail_stream rest hb, List.append_assoc]
theorem stream_split (rest : Int) {rows : List (List Int)} {k : Nat} (h1 : 1 ≤ k) (h2 : k < rows.length) : streamL rest [streamL rest (rows.take k), streamL rest (rows.drop k)] = streamL rest rows := by
  have e := stream_app rest (a := rows.take k) (b := rows.drop k) (fun z => by
    have := congrArg List.length z
    rw [List.length_take, List.length_nil] at this
    omega) (fun z => by
    have := congrArg List.length z
    rw [List.length_drop, List.length_nil] at this
    omega)
  rw [List.take_append_drop] at e
  rw [e, streamL, tailL, tailL, List.append_nil]
/-- the rows so far, each with the pause behind it -/
def preL (rest : Int) : List (List Int) → List Int
  | [] => []
  | r :: rs => r ++ rest :: preL rest rs
theorem pre_stream (rest : Int) : ∀ (dn : List (List Int)) (r : List Int) (rs : List (List Int)), streamL rest (dn ++ r :: rs) = preL rest dn ++ (r ++ tailL rest rs)
  | [], r, rs => rfl
  | d :: dn, r, rs => by
    have ih := pre_stream rest dn r rs
    rw [List.cons_append, streamL, tail_stream rest (by simp), ih, preL, List.append_assoc]
    rfl
theorem pre_app (rest : Int) (r : List Int) : ∀ dn : List (List Int), preL rest (dn ++ [r]) = preL rest dn ++ (r ++ [rest])
  | [] => rfl
  | d :: dn => by
    rw [List.cons_append, preL, preL, pre_app rest r dn, List.append_assoc]
    rfl
theorem pre_even {rest : Int} : ∀ dn : List (List Int), (∀ q ∈ dn, q.length % 2 = 1) → (preL rest dn).length % 2 = 0
  | [], _ => rfl
  | d :: dn, h => by
    have h1 := h d List.mem_cons_self
    have h2 := pre_even (rest := rest) dn fun q hq => h q (List.mem_cons_of_mem _ hq)
    rw [preL, List.length_append, List.length_cons]
    omega
theorem pre_pos {rest : Int} (hr : 0 ≤ rest) : ∀ dn : List (List Int), (∀ q ∈ dn, ∀ t ∈ q, 0 ≤ t) → ∀ t ∈ preL rest dn, 0 ≤ t
  | [], _, t, ht => nomatch ht
  | d :: dn, h, t, ht => by
    rw [preL] at ht
    rcases List.mem_append.mp ht with z | z
    · exact h d List.mem_cons_self t z
    · rcases List.mem_cons.mp z with rfl | z
      · exact hr
      · exact pre_pos hr dn (fun q hq => h q (List.mem_cons_of_mem _ hq)) t z
theorem stream_mem {rest : Int} : ∀ (rows : List (List Int)) (t : Int), t ∈ streamL rest rows → t = rest ∨ ∃ q ∈ rows, t ∈ q := by
  have tl : ∀ (rows : List (List Int)) (t : Int), t ∈ tailL rest rows → t = rest ∨ ∃ q ∈ rows, t ∈ q := by
    intro rows
    induction rows with
    | nil => intro t h; exact nomatch h
    | cons r rs ih =>
      intro t h
      rw [tailL] at h
      rcases List.mem_cons.mp h with rfl | h
      · exact .inl rfl
      rcases List.mem_append.mp h with h | h
      · exact .inr ⟨r, List.mem_cons_self, h⟩
      · rcases ih t h with z | ⟨q, hq, hz⟩
        · exact .inl z
        · exact .inr ⟨q, List.mem_cons_of_mem _ hq, hz⟩
  intro rows t h
  cases rows with
  | nil => exact nomatch h
  | cons r rs =>
    rw [streamL] at h
    rcases List.mem_append.mp h with h | h
    · exact .inr ⟨r, List.mem_cons_self, h⟩
    · rcases tl rs t h with z | ⟨q, hq, hz⟩
      · exact .inl z
      · exact .inr ⟨q, List.mem_cons_of_mem _ hq, hz⟩
theorem tail_odd {rest : Int} : ∀ rs : List (List Int), (∀ q ∈ rs, q.length % 2 = 1) → (tailL rest rs).length % 2 = 0
  | [], _ => rfl
  | r :: rs, h => by
    have h1 := h r List.mem_cons_self
    have h2 := tail_odd (rest := rest) rs fun q hq => h q (List.mem_cons_of_mem _ hq)
    rw [tailL, List.length_cons, List.length_append]
    omega
theorem stream_odd {rest : Int} {rs : List (List Int)} (hn : rs ≠ []) (h : ∀ q ∈ rs, q.length % 2 = 1) : (streamL rest rs).length % 2 = 1 := by
  cases rs with
  | nil => exact absurd rfl hn
  | cons r rs =>
    have h1 := h r List.mem_cons_self
    have h2 := tail_odd (rest := rest) rs fun q hq => h q (List.mem_cons_of_mem _ hq)
    rw [streamL, List.length_append]
    omega
theorem rowV_len (a most span : Int) (h : 0 < most) : (rowV a most span).length = (1 + 2 * (a % most)).toNat := by
  unfold rowV
  rw [List.length_map, List.length_range]
theorem rowV_odd (a most span : Int) (h : 0 < most) : (rowV a most span).length % 2 = 1 ∧ (rowV a most span).length ≤ (2 * most).toNat := by
  have h1 := Int.emod_nonneg a (show most ≠ 0 by omega)
  have h2 := Int.emod_lt_of_pos a h
  rw [rowV_len a most span h]
  omega
theorem rowV_mem {a most span : Int} (h : 0 < span) : ∀ t ∈ rowV a most span, 1 ≤ t ∧ t ≤ span := by
  intro t ht
  unfold rowV at ht
  obtain ⟨k, _, rfl⟩ := List.mem_map.mp ht
  have h1 := Int.emod_nonneg (drawnV a (20 + k) / 4) (show span ≠ 0 by omega)
  have h2 := Int.emod_lt_of_pos (drawnV a (20 + k) / 4) h
  omega
theorem sum_bound : ∀ (l : List Int) (b : Nat), (∀ t ∈ l, 0 ≤ t ∧ t ≤ b) → 0 ≤ l.sum ∧ l.sum ≤ ((l.length * b : Nat) : Int)
  | [], b, _ => ⟨Int.le_refl _, by simp⟩
  | x :: r, b, h => by
    have h1 := h x List.mem_cons_self
    have h2 := sum_bound r b fun t ht => h t (List.mem_cons_of_mem _ ht)
    rw [List.sum_cons, List.length_cons, Nat.succ_mul]
    omega
theorem even_r {s : List Int} (h : s.length ≤ 100000) : dStp .even (rowD s) = .ok (rowD (evens s)) := by
  unfold rowD
  rw [even_t (by rw [List.length_map]; omega), map_evens]
theorem odd_r {s : List Int} (h : s.length ≤ 100000) : dStp .odd (rowD s) = .ok (rowD (evens s.tail)) := by
  unfold rowD
  rw [odd_t (by rw [List.length_map]; omega), ← List.map_tail, map_evens]
theorem it_row {s : List Int} : items .seq [rowD s] = .ok (s.map D.int) := rfl
theorem one_rows (s : List Int) : (s.map D.int).map (fun d => D.tup [d]) = (s.map fun t => [t]).map rowD := by
  rw [List.map_map, List.map_map]
  rfl
end LC

set_option Elab.async false
set_option linter.all false
set_option maxRecDepth 100000
set_option maxHeartbeats 4000000
/-! LC: heard by each -/
namespace LC
open PySem L2
theorem prsOf_map : ∀ l : List (Int × Int), prsOf (l.map pD) = some l
  | [] => rfl
  | p :: r => by
    show (prsOf (r.map pD)).map ((p.1, p.2) :: ·) = some (p :: r)
    rw [prsOf_map r]
    rfl
theorem intsOf_prs (p : Int × Int) (r : List (Int × Int)) : intsOf ((p :: r).map pD) = none := rfl
theorem sorted_prs (l : List (Int × Int)) : dBi .sorted [.lst (l.map pD)] = .ok (.lst ((srtP l).map pD)) := by
  cases l with
  | nil => rfl
  | cons p r =>
    show (match intsOf ((p :: r).map pD) with | some ns => R.ok (D.lst ((srtI ns).map D.int)) | none => (match prsOf ((p :: r).map pD) with | some ps => R.ok (D.lst ((srtP ps).map prD1)) | none => R.bad)) = _
    rw [intsOf_prs, prsOf_map]
    rfl
theorem srtP_eq {l m : List (Int × Int)} (hp : m.Perm l) (hs : m.Pairwise leP) : srtP l = m :=
  List.Perm.eq_of_pairwise (le := leP) (fun a b _ _ x y => leP_as x y) (srtP_srt l) hs ((srtP_perm l).trans hp.symm)
theorem byP_ge {row : List Int} : ∀ {ms : List Mk} {i : Nat}, ∀ p ∈ byP i ms row, (i : Int) ≤ p.1 ∧ p.1 < ((i + ms.length : Nat) : Int) := by
  intro ms i p hp
  obtain ⟨j, m, h1, h2, _⟩ := byP_mem hp
  have : j < ms.length := (List.getElem?_eq_some_iff.mp h2).1
  omega
theorem byP_srt (row : List Int) : ∀ (ms : List Mk) (i : Nat), (byP i ms row).Pairwise leP
  | [], _ => List.Pairwise.nil
  | m :: ms, i => by
    rw [byP]
    cases m.heard row with
    | none => exact byP_srt row ms (i + 1)
    | some x =>
      refine List.pairwise_cons.mpr ⟨fun q hq => ?_, byP_srt row ms (i + 1)⟩
      have := byP_ge q hq
      exact .inl (by show (i : Int) < q.1; omega)
theorem byP_shift (row : List Int) : ∀ (ms : List Mk) (i k : Nat), byP (i + k) ms row = (byP i ms row).map fun p : Int × Int => (p.1 + (k : Int), p.2)
  | [], _, _ => rfl
  | m :: ms, i, k => by
    rw [byP, byP, show i + k + 1 = i + 1 + k by omega, byP_shift row ms (i + 1) k]
    cases m.heard row with
    | none => rfl
    | some x =>
      rw [List.map_cons]
      congr 1
theorem byP_rev (row : List Int) : ∀ (ms : List Mk), byP 0 ms.reverse row = ((byP 0 ms row).map fun p => ((ms.length : Int) - 1 - p.1, p.2)).reverse
  | [] => rfl
  | m :: ms => by
    rw [List.reverse_cons, byP_app, byP_rev row ms, List.length_reverse, Nat.zero_add, List.length_cons, byP]
    have hs := byP_shift row ms 0 1
    rw [Nat.zero_add] at hs ⊢
    rw [hs]
    have e : ((byP 0 ms row).map fun p => (p.1 + ((1 : Nat) : Int), p.2)).map (fun p => (((ms.length + 1 : Nat) : Int) - 1 - p.1, p.2)) = (byP 0 ms row).map fun p => ((ms.length : Int) - 1 - p.1, p.2) := by
      rw [List.map_map]
      apply List.map_congr_left
      intro p _
      show (((ms.length + 1 : Nat) : Int) - 1 - (p.1 + ((1 : Nat) : Int)), p.2) = ((ms.length : Int) - 1 - p.1, p.2)
      congr 1
      omega
    cases m.heard row with
    | none =>
      show _ ++ [] = _
      rw [List.append_nil, e]
    | some x =>
      show _ ++ [((ms.length : Int), x)] = (List.map _ (_ :: _)).reverse
      rw [List.map_cons, List.reverse_cons, e]
      congr 3
      show (ms.length : Int) = ((ms.length + 1 : Nat) : Int) - 1 - ((0 : Nat) : Int)
      omega
theorem near_mono {s s' : Int} (h : s ≤ s') : ∀ {a b : List Int}, near s a b → near s' a b
  | [], [], _ => trivial
  | _ :: _, _ :: _, hn => ⟨by have := hn.1; omega, near_mono h hn.2⟩
  | [], _ :: _, hn => hn
  | _ :: _, [], hn => hn
/-- the same maker, as wide as may be -/
def Mk.wide (m : Mk) : Mk := { m with slip := min m.head (min m.gap ((m.unit + 1) / 2)) - 1 }
theorem Mk.wide_ok {m : Mk} {most : Int} (hmo : most ≤ 1000) (h : m.L most) : m.wide.Ok := by
  obtain ⟨h1, h2, h3, h4, h5, h6, h7, h8, h9, h10, h11, h12, h13⟩ := h
  refine ⟨h1, h8, by show m.bits ≤ 1000; omega, h6, by show m.unit < 1000000; omega, ?_, ?_⟩
  · show 0 ≤ min m.head (min m.gap ((m.unit + 1) / 2)) - 1
    omega
  · show 2 * (min m.head (min m.gap ((m.unit + 1) / 2)) - 1) < m.unit
    omega
theorem Mk.wide_heard {m : Mk} {most : Int} (hmo : most ≤ 1000) (h : m.L most) {row : List Int} {x : Int} (hh : m.heard row = some x) : m.wide.heard row = some x := by
  have h1 := (Mk.heard_iff (h.ok hmo)).mp hh
  obtain ⟨_, g2, g3, g4, g5, g6, g7, g8, g9, g10, g11, g12, g13⟩ := h
  refine (Mk.heard_iff (Mk.wide_ok hmo ⟨by assumption, g2, g3, g4, g5, g6, g7, g8, g9, g10, g11, g12, g13⟩)).mpr ⟨h1.1, near_mono (s := m.slip) ?_ h1.2⟩
  show m.slip ≤ min m.head (min m.gap ((m.unit + 1) / 2)) - 1
  omega
theorem mk_c6 {way : Str} {head gap unit b slip : Int} {low : Bool} : dCut (mkD way head gap unit b low slip) none (some 6) = .ok (.tup [.str way, .int head, .int gap, .int unit, .int b, .bl low]) := rfl
theorem byP_head (row : List Int) (m : Mk) (ms : List Mk) : (byP 0 (m :: ms) row).filter (fun p => decide (p.1 = 0)) = byP 0 [m] row := by
  rw [byP, byP, byP]
  have h0 : (byP (0 + 1) ms row).filter (fun p => decide (p.1 = 0)) = [] := List.filter_eq_nil_iff.mpr fun p hp => by
    have := byP_ge p hp
    simp
    omega
  cases m.heard row with
  | none => exact h0
  | some x =>
    show ((((0 : Nat) : Int), x) :: byP (0 + 1) ms row).filter _ = [(((0 : Nat) : Int), x)]
    rw [List.filter_cons_of_pos (by simp), h0]
def d2f (f : Int → Int → Int × Int) : D → D
  | .tup [.int x, .int y] => pD (f x y)
  | d => d
theorem d2f_map (f : Int → Int → Int × Int) (l : List (Int × Int)) : (l.map pD).map (d2f f) = (l.map fun p => f p.1 p.2).map pD := by
  rw [List.map_map, List.map_map]
  rfl
def pdF (f : Int × Int → Bool) : D → Option D
  | .tup [.int x, .int y] => if f (x, y) = true then some (.tup [.int x, .int y]) else none
  | _ => none
theorem pdF_fm (f : Int × Int → Bool) : ∀ l : List (Int × Int), (l.map pD).filterMap (pdF f) = (l.filter f).map pD
  | [] => rfl
  | p :: r => by
    rw [List.map_cons, List.filterMap_cons, pdF_fm f r]
    have e : pdF f (pD p) = if f p = true then some (pD p) else none := rfl
    rw [e]
    by_cases h : f p = true
    · rw [if_pos h, List.filter_cons_of_pos h]
      rfl
    · rw [if_neg h, List.filter_cons_of_neg h]
end LC

set_option Elab.async false
set_option linter.all false
set_option maxRecDepth 100000
set_option maxHeartbeats 4000000
/-! LC: two lamps -/
namespace LC
open PySem L2
/-- a stream: an odd number of times, all of them at least one -/
def Can (s : List Int) : Prop := s.length % 2 = 1 ∧ ∀ t ∈ s, 1 ≤ t
theorem sum_nn : ∀ l : List Int, (∀ m ∈ l, 0 ≤ m) → 0 ≤ l.sum
  | [], _ => Int.le_refl _
  | a :: l, h => by
    have h1 := h a List.mem_cons_self
    have h2 := sum_nn l fun m hm => h m (List.mem_cons_of_mem _ hm)
    rw [List.sum_cons]
    omega
theorem lit_beyond : ∀ (s : List Int) (i : Nat) (t : Int), (∀ m ∈ s, 0 ≤ m) → s.sum ≤ t → litL i s t = false
  | [], _, _, _, _ => rfl
  | m :: r, i, t, h, ht => by
    have h1 := h m List.mem_cons_self
    have h2 := sum_nn r fun m hm => h m (List.mem_cons_of_mem _ hm)
    rw [List.sum_cons] at ht
    rw [litL, if_neg (by omega)]
    exact lit_beyond r (i + 1) (t - m) (fun m hm => h m (List.mem_cons_of_mem _ hm)) (by omega)
theorem lit_last : ∀ (s : List Int) (i : Nat), (∀ m ∈ s, 1 ≤ m) → s ≠ [] → litL i s (s.sum - 1) = decide (((i + s.length - 1 : Nat) : Int) % 2 = 0)
  | [], _, _, h => absurd rfl h
  | [m], i, h, _ => by
    show litL i [m] (m + 0 - 1) = _
    rw [litL, if_pos (by omega)]
    rfl
  | m :: m2 :: r, i, h, _ => by
    have h1 := h m List.mem_cons_self
    have h2 := h m2 (List.mem_cons_of_mem _ List.mem_cons_self)
    have h3 := sum_nn r fun m hm => by
      have := h m (List.mem_cons_of_mem _ (List.mem_cons_of_mem _ hm))
      omega
    have ih := lit_last (m2 :: r) (i + 1) (fun m hm => h m (List.mem_cons_of_mem _ hm)) (List.cons_ne_nil _ _)
    rw [litL, if_neg (by rw [List.sum_cons, List.sum_cons]; omega), List.sum_cons, show m + (m2 :: r).sum - 1 - m = (m2 :: r).sum - 1 by omega, ih]
    apply decide_eq_decide.mpr
    simp only [List.length_cons]
    omega
theorem can_last {s : List Int} (h : Can s) : litL 0 s (s.sum - 1) = true := by
  have hn : s ≠ [] := fun z => by
    have := h.1
    rw [z] at this
    exact absurd this (by decide)
  rw [lit_last s 0 h.2 hn]
  have := h.1
  exact decide_eq_true (by omega)
theorem can_pos {s : List Int} (h : Can s) : 1 ≤ s.sum := by
  cases s with
  | nil => exact absurd h.1 (by decide)
  | cons m r =>
    have h1 := h.2 m List.mem_cons_self
    have h2 := sum_nn r fun m hm => by
      have := h.2 m (List.mem_cons_of_mem _ hm)
      omega
    rw [List.sum_cons]
    omega
theorem lit_head {m t : Int} {r : List Int} {i : Nat} (h : t < m) : litL i (m :: r) t = decide ((i : Int) % 2 = 0) := by rw [litL, if_pos h]
theorem lit_skip {m t : Int} {r : List Int} {i : Nat} (h : 0 ≤ t) : litL i (m :: r) (m + t) = litL (i + 1) r t := by
  rw [litL, if_neg (by omega), show m + t - m = t by omega]
/-- the lamp tells the stream -/
theorem lit_uniq : ∀ (s s' : List Int) (i : Nat), (∀ m ∈ s, 1 ≤ m) → (∀ m ∈ s', 1 ≤ m) → (i + s.length) % 2 = 1 → (i + s'.length) % 2 = 1 → (∀ t, 0 ≤ t → litL i s t = litL i s' t) → s = s'
  | [], [], _, _, _, _, _, _ => rfl
  | [], m' :: r', i, _, h2, h3, h4, h => by
    exfalso
    have hm := h2 m' List.mem_cons_self
    cases r' with
    | nil =>
      rw [List.length_nil] at h3
      rw [List.length_cons, List.length_nil] at h4
      omega
    | cons m2 r2 =>
      have hm2 := h2 m2 (List.mem_cons_of_mem _ List.mem_cons_self)
      have e := h (m' + 0) (by omega)
      rw [lit_skip (Int.le_refl _), lit_head (by omega)] at e
      rw [List.length_nil] at h3
      have : false = true := e.trans (decide_eq_true (by omega))
      cases this
  | m :: r, [], i, h1, _, h3, h4, h => by
    exfalso
    have hm := h1 m List.mem_cons_self
    cases r with
    | nil =>
      rw [List.length_nil] at h4
      rw [List.length_cons, List.length_nil] at h3
      omega
    | cons m2 r2 =>
      have hm2 := h1 m2 (List.mem_cons_of_mem _ List.mem_cons_self)
      have e := h (m + 0) (by omega)
      rw [lit_skip (Int.le_refl _), lit_head (by omega)] at e
      rw [List.length_nil] at h4
      have : true = false := (decide_eq_true (by omega)).symm.trans e
      cases this
  | m :: r, m' :: r', i, h1, h2, h3, h4, h => by
    have hm := h1 m List.mem_cons_self
    have hm' := h2 m' List.mem_cons_self
    -- at the end of the shorter the two part, unless they end together
    have part : ∀ (a : Int) (q : List Int) (b : Int) (q' : List Int), (∀ m ∈ q, 1 ≤ m) → (i + (q.length + 1)) % 2 = 1 → 1 ≤ a → a < b → litL i (a :: q) a = litL i (b :: q') a → False := fun a q b q' hq hl ha hab e => by
      rw [lit_head hab, show litL i (a :: q) a = litL (i + 1) q 0 from by rw [litL, if_neg (by omega), Int.sub_self]] at e
      cases q with
      | nil =>
        rw [List.length_nil] at hl
        have : false = true := e.trans (decide_eq_true (by omega))
        cases this
      | cons m2 r2 =>
        have := hq m2 List.mem_cons_self
        rw [lit_head (by omega)] at e
        by_cases hi : (i : Int) % 2 = 0
        · rw [decide_eq_true hi, decide_eq_false (by omega)] at e
          cases e
        · rw [decide_eq_false hi, decide_eq_true (by omega)] at e
          cases e
    have hmm : m = m' := by
      rcases Int.lt_trichotomy m m' with z | z | z
      · exact (part m r m' r' (fun m hm => h1 m (List.mem_cons_of_mem _ hm)) h3 hm z (h m (by omega))).elim
      · exact z
      · exact (part m' r' m r (fun m hm => h2 m (List.mem_cons_of_mem _ hm)) h4 hm' z (h m' (by omega)).symm).elim
    subst hmm
    rw [List.length_cons] at h3 h4
    rw [lit_uniq r r' (i + 1) (fun m hm => h1 m (List.mem_cons_of_mem _ hm)) (fun m hm => h2 m (List.mem_cons_of_mem _ hm)) (by omega) (by omega) fun t ht => by
      have := h (m + t) (by omega)
      rw [lit_skip ht, lit_skip ht] at this
      exact this]
theorem can_uniq {s s' : List Int} (h : Can s) (h' : Can s') (e : ∀ t, 0 ≤ t → litL 0 s t = litL 0 s' t) : s = s' :=
  lit_uniq s s' 0 h.2 h'.2 (by rw [Nat.zero_add]; exact h.1) (by rw [Nat.zero_add]; exact h'.1) e
/-! the spans -/
def spanL : Nat → Int → List Int → List (Int × Int)
  | _, _, [] => []
  | i, b, m :: r => if (i : Int) % 2 = 0 then (b, b + m) :: spanL (i + 1) (b + m) r else spanL (i + 1) (b + m) r
def cov (l : List (Int × Int)) (t : Int) : Prop := ∃ p ∈ l, p.1 ≤ t ∧ t < p.2
theorem span_ge : ∀ (s : List Int) (i : Nat) (b : Int), (∀ m ∈ s, 1 ≤ m) → ∀ p ∈ spanL i b s, b ≤ p.1 ∧ p.1 < p.2
  | [], _, _, _, p, hp => nomatch hp
  | m :: r, i, b, h, p, hp => by
    have hm := h m List.mem_cons_self
    rw [spanL] at hp
    split at hp
    · rcases List.mem_cons.mp hp with rfl | hp
      · exact ⟨Int.le_refl _, by show b < b + m; omega⟩
      · have := span_ge r (i + 1) (b + m) (fun m hm => h m (List.mem_cons_of_mem _ hm)) p hp
        omega
    · have := span_ge r (i + 1) (b + m) (fun m hm => h m (List.mem_cons_of_mem _ hm)) p hp
      omega
theorem span_lit : ∀ (s : List Int) (i : Nat) (b t : Int), (∀ m ∈ s, 1 ≤ m) → (cov (spanL i b s) t ↔ b ≤ t ∧ litL i s (t - b) = true)
  | [], _, _, _, _ => ⟨fun ⟨_, h, _⟩ => (nomatch h), fun h => (nomatch h.2)⟩
  | m :: r, i, b, t, h => by
    have hm := h m List.mem_cons_self
    have hr := fun m' hm' => h m' (List.mem_cons_of_mem _ hm')
    have ih := span_lit r (i + 1) (b + m) t hr
    rw [litL]
    by_cases hi : (i : Int) % 2 = 0
    · rw [spanL, if_pos hi]
      constructor
      · rintro ⟨p, hp, g1, g2⟩
        rcases List.mem_cons.mp hp with rfl | hp
        · have g1' : b ≤ t := g1
          have g2' : t < b + m := g2
          exact ⟨g1', by rw [if_pos (by omega)]; exact decide_eq_true hi⟩
        · have := ih.mp ⟨p, hp, g1, g2⟩
          refine ⟨by omega, ?_⟩
          rw [if_neg (by omega), show t - b - m = t - (b + m) by omega]
          exact this.2
      · rintro ⟨g1, g2⟩
        by_cases hlt : t - b < m
        · exact ⟨_, List.mem_cons_self, g1, by show t < b + m; omega⟩
        · rw [if_neg hlt, show t - b - m = t - (b + m) by omega] at g2
          obtain ⟨p, hp, q1, q2⟩ := ih.mpr ⟨by omega, g2⟩
          exact ⟨p, List.mem_cons_of_mem _ hp, q1, q2⟩
    · rw [spanL, if_neg hi, ih]
      constructor
      · rintro ⟨g1, g2⟩
        refine ⟨by omega, ?_⟩
        rw [if_neg (by omega), show t - b - m = t - (b + m) by omega]
        exact g2
      · rintro ⟨g1, g2⟩
        by_cases hlt : t - b < m
        · rw [if_pos hlt, decide_eq_false hi] at g2
          cases g2
        · rw [if_neg hlt, show t - b - m = t - (b + m) by omega] at g2
          exact ⟨by omega, g2⟩
/-! the spans put together -/
def stepT (a : List Int × Int) (p : Int × Int) : List Int × Int :=
  if a.1.length = 0 then ([p.2 - p.1], p.2) else if a.2 < p.1 then (a.1 ++ [p.1 - a.2, p.2 - p.1], p.2) else if a.2 < p.2 then (a.1.dropLast ++ [a.1.getLastD 0 + p.2 - a.2], p.2) else a
def togL (l : List (Int × Int)) : List Int := (l.foldl stepT ([], 0)).1
/-- what holds when the spans in dn have been taken -/
structure TInv (dn : List (Int × Int)) (a : List Int × Int) : Prop where
  can : Can a.1
  sum : a.1.sum = a.2
  lit : ∀ t, 0 ≤ t → (litL 0 a.1 t = true ↔ cov dn t)
  low : ∃ p ∈ dn, a.1.dropLast.sum ≤ p.1
theorem cov_snoc {dn : List (Int × Int)} {p : Int × Int} {t : Int} : cov (dn ++ [p]) t ↔ cov dn t ∨ (p.1 ≤ t ∧ t < p.2) := by
  constructor
  · rintro ⟨q, hq, h⟩
    rcases List.mem_append.mp hq with z | z
    · exact .inl ⟨q, z, h⟩
    · rw [List.mem_singleton.mp z] at h
      exact .inr h
  · rintro (⟨q, hq, h⟩ | h)
    · exact ⟨q, List.mem_append_left _ hq, h⟩
    · exact ⟨p, List.mem_append_right _ (List.mem_singleton.mpr rfl), h⟩
theorem tinv_first {p : Int × Int} (h0 : p.1 = 0) (h1 : p.1 < p.2) : TInv [p] (stepT ([], 0) p) := by
  have e : stepT ([], 0) p = ([p.2 - p.1], p.2) := rfl
  rw [e]
  refine ⟨⟨rfl, fun t ht => by rw [List.mem_singleton.mp ht]; omega⟩, by show p.2 - p.1 + 0 = p.2; omega, fun t ht => ?_, p, List.mem_singleton.mpr rfl, by show (0 : Int) ≤ p.1; omega⟩
  show litL 0 [p.2 - p.1] t = true ↔ _
  rw [litL]
  constructor
  · intro h
    by_cases hlt : t < p.2 - p.1
    · exact ⟨p, List.mem_singleton.mpr rfl, by omega, by omega⟩
    · rw [if_neg hlt] at h
      cases h
  · rintro ⟨q, hq, g1, g2⟩
    rw [List.mem_singleton.mp hq] at g1 g2
    rw [if_pos (by omega)]
    rfl
theorem can_split {s : List Int} (h : Can s) : ∃ pre l, s = pre ++ [l] ∧ pre.length % 2 = 0 ∧ 1 ≤ l ∧ (∀ t ∈ pre, 1 ≤ t) ∧ s.dropLast = pre ∧ s.getLastD 0 = l := by
  have hn : s ≠ [] := fun z => by
    have := h.1
    rw [z] at this
    exact absurd this (by decide)
  refine ⟨s.dropLast, s.getLast hn, (List.dropLast_concat_getLast hn).symm, ?_, h.2 _ (List.getLast_mem hn), fun t ht => h.2 t (List.dropLast_subset _ ht), rfl, ?_⟩
  · rw [List.length_dropLast]
    have := h.1
    omega
  · cases s with
    | nil => exact absurd rfl hn
    | cons a l => rfl
theorem tinv_step {dn : List (Int × Int)} {a : List Int × Int} {p : Int × Int} (h : TInv dn a) (hp : p.1 < p.2) (h0 : 0 ≤ p.1) (hs : ∀ q ∈ dn, q.1 ≤ p.1) : TInv (dn ++ [p]) (stepT a p) := by
  obtain ⟨hc, hsum, hlit, q0, hq0, hlow⟩ := h
  obtain ⟨pre, l, hpl, hpe, hl1, hpp, hdl, hgl⟩ := can_split hc
  have hq0p := hs q0 hq0
  have hn0 : ¬ a.1.length = 0 := fun z => by
    have := hc.1
    omega
  have hnn : ∀ m ∈ a.1, 0 ≤ m := fun m hm => by
    have := hc.2 m hm
    omega
  have hpn : ∀ m ∈ pre, 0 ≤ m := fun m hm => by
    have := hpp m hm
    omega
  have hps : a.1.sum = pre.sum + l := by
    rw [hpl, List.sum_append]
    simp
  rw [hdl] at hlow
  have hpv := sum_nn pre hpn
  unfold stepT
  rw [if_neg hn0]
  by_cases c1 : a.2 < p.1
  · rw [if_pos c1]
    refine ⟨⟨?_, fun t ht => ?_⟩, ?_, fun t ht => ?_, p, List.mem_append_right _ (List.mem_singleton.mpr rfl), ?_⟩
    · show (a.1 ++ [p.1 - a.2, p.2 - p.1]).length % 2 = 1
      rw [List.length_append, List.length_cons, List.length_cons, List.length_nil]
      have := hc.1
      omega
    · rcases List.mem_append.mp ht with z | z
      · exact hc.2 t z
      · simp only [List.mem_cons, List.not_mem_nil, or_false] at z
        omega
    · show (a.1 ++ [p.1 - a.2, p.2 - p.1]).sum = p.2
      rw [List.sum_append, hsum]
      simp only [List.sum_cons, List.sum_nil]
      omega
    · show litL 0 (a.1 ++ [p.1 - a.2, p.2 - p.1]) t = true ↔ _
      rw [cov_snoc]
      by_cases hta : t < a.2
      · rw [lit_in a.1 0 t ht (by omega), hlit t ht]
        constructor
        · exact .inl
        · rintro (z | z)
          · exact z
          · omega
      · have hno : ¬ cov dn t := fun z => by
          have := (hlit t ht).mpr z
          rw [lit_beyond a.1 0 t hnn (by omega)] at this
          cases this
        rw [show t = a.1.sum + (t - a.2) by omega, lit_app a.1 0 (t - a.2) hnn (by omega), Nat.zero_add, ← show t = a.1.sum + (t - a.2) by omega, litL]
        have hcl := hc.1
        by_cases ht1 : t - a.2 < p.1 - a.2
        · rw [if_pos ht1, decide_eq_false (by omega)]
          constructor
          · intro z
            cases z
          · rintro (z | z)
            · exact absurd z hno
            · omega
        · rw [if_neg ht1, litL]
          by_cases ht2 : t - a.2 - (p.1 - a.2) < p.2 - p.1
          · rw [if_pos ht2, decide_eq_true (by omega)]
            exact ⟨fun _ => .inr (by omega), fun _ => rfl⟩
          · rw [if_neg ht2]
            constructor
            · intro z
              cases z
            · rintro (z | z)
              · exact absurd z hno
              · omega
    · show (a.1 ++ [p.1 - a.2, p.2 - p.1]).dropLast.sum ≤ p.1
      rw [show a.1 ++ [p.1 - a.2, p.2 - p.1] = (a.1 ++ [p.1 - a.2]) ++ [p.2 - p.1] by rw [List.append_assoc]; rfl, List.dropLast_concat, List.sum_append, hsum]
      simp only [List.sum_cons, List.sum_nil]
      omega
  · rw [if_neg c1]
    by_cases c2 : a.2 < p.2
    · rw [if_pos c2, hdl, hgl]
      refine ⟨⟨?_, fun t ht => ?_⟩, ?_, fun t ht => ?_, q0, List.mem_append_left _ hq0, ?_⟩
      · show (pre ++ [l + p.2 - a.2]).length % 2 = 1
        rw [List.length_append, List.length_cons, List.length_nil]
        omega
      · rcases List.mem_append.mp ht with z | z
        · exact hpp t z
        · rw [List.mem_singleton.mp z]
          omega
      · show (pre ++ [l + p.2 - a.2]).sum = p.2
        rw [List.sum_append]
        simp only [List.sum_cons, List.sum_nil]
        omega
      · show litL 0 (pre ++ [l + p.2 - a.2]) t = true ↔ _
        rw [cov_snoc, ← hlit t ht, hpl]
        by_cases htp : t < pre.sum
        · rw [lit_in pre 0 t ht htp, lit_in pre 0 t ht htp]
          constructor
          · exact .inl
          · rintro (z | z)
            · exact z
            · omega
        · rw [show t = pre.sum + (t - pre.sum) by omega, lit_app pre 0 (t - pre.sum) hpn (by omega), lit_app pre 0 (t - pre.sum) hpn (by omega), Nat.zero_add, ← show t = pre.sum + (t - pre.sum) by omega, show litL pre.length [l + p.2 - a.2] (t - pre.sum) = (if t - pre.sum < l + p.2 - a.2 then decide (((pre.length : Nat) : Int) % 2 = 0) else false) from rfl, show litL pre.length [l] (t - pre.sum) = (if t - pre.sum < l then decide (((pre.length : Nat) : Int) % 2 = 0) else false) from rfl]
          by_cases h1 : t - pre.sum < l + p.2 - a.2
          · rw [if_pos h1, decide_eq_true (by omega)]
            refine ⟨fun _ => ?_, fun _ => rfl⟩
            by_cases h2 : t - pre.sum < l
            · exact .inl (by rw [if_pos h2])
            · exact .inr (by omega)
          · rw [if_neg h1, if_neg (by omega)]
            constructor
            · intro z
              cases z
            · rintro (z | z)
              · cases z
              · omega
      · show (pre ++ [l + p.2 - a.2]).dropLast.sum ≤ q0.1
        rw [List.dropLast_concat]
        exact hlow
    · rw [if_neg c2]
      refine ⟨hc, hsum, fun t ht => ?_, q0, List.mem_append_left _ hq0, by rw [hdl]; exact hlow⟩
      rw [cov_snoc]
      constructor
      · exact fun z => .inl ((hlit t ht).mp z)
      · rintro (z | z)
        · exact (hlit t ht).mpr z
        · rw [hpl, show t = pre.sum + (t - pre.sum) by omega, lit_app pre 0 (t - pre.sum) hpn (by omega), Nat.zero_add, litL, if_pos (by omega)]
          exact decide_eq_true (by omega)
theorem tinv_all : ∀ (r dn : List (Int × Int)) (a : List Int × Int), TInv dn a → (dn ++ r).Pairwise leP → (∀ p ∈ r, 0 ≤ p.1 ∧ p.1 < p.2) → TInv (dn ++ r) (r.foldl stepT a)
  | [], dn, a, h, _, _ => by rw [List.append_nil]; exact h
  | p :: r, dn, a, h, hs, hp => by
    have h1 := tinv_step h (hp p List.mem_cons_self).2 (hp p List.mem_cons_self).1 fun q hq => by
      have := (List.pairwise_append.mp hs).2.2 q hq p List.mem_cons_self
      unfold leP at this
      omega
    have := tinv_all r (dn ++ [p]) (stepT a p) h1 (by rw [List.append_assoc]; exact hs) fun q hq => hp q (List.mem_cons_of_mem _ hq)
    rw [List.append_assoc] at this
    exact this
theorem tog_spec {l : List (Int × Int)} (hs : l.Pairwise leP) (hp : ∀ p ∈ l, 0 ≤ p.1 ∧ p.1 < p.2) (h0 : ∃ p ∈ l, p.1 = 0) : Can (togL l) ∧ ∀ t, 0 ≤ t → (litL 0 (togL l) t = true ↔ cov l t) := by
  cases l with
  | nil =>
    obtain ⟨p, hp, _⟩ := h0
    exact nomatch hp
  | cons p r =>
    have hz : p.1 = 0 := by
      obtain ⟨q, hq, e⟩ := h0
      have hp1 := (hp p List.mem_cons_self).1
      rcases List.mem_cons.mp hq with rfl | hq
      · exact e
      · have := (List.pairwise_cons.mp hs).1 q hq
        unfold leP at this
        omega
    have h := tinv_all r [p] _ (tinv_first hz (hp p List.mem_cons_self).2) hs fun q hq => hp q (List.mem_cons_of_mem _ hq)
    exact ⟨h.can, h.lit⟩
/-- together, as the program does it -/
def tog (one other : List Int) (late : Int) : List Int := togL (srtP (spanL 0 0 one ++ spanL 0 late other))
theorem tog_can {one other : List Int} {late : Int} (h1 : Can one) (h2 : Can other) (h3 : 0 ≤ late) : Can (tog one other late) ∧ ∀ t, 0 ≤ t → (litL 0 (tog one other late) t = true ↔ litL 0 one t = true ∨ (late ≤ t ∧ litL 0 other (t - late) = true)) := by
  have hpm := srtP_perm (spanL 0 0 one ++ spanL 0 late other)
  have hsp := tog_spec (l := srtP (spanL 0 0 one ++ spanL 0 late other)) (srtP_srt _) (fun p hp => by
    rcases List.mem_append.mp (hpm.mem_iff.mp hp) with z | z
    · have := span_ge one 0 0 h1.2 p z
      omega
    · have := span_ge other 0 late h2.2 p z
      omega) (by
    cases one with
    | nil => exact absurd h1.1 (by decide)
    | cons m r => exact ⟨(0, 0 + m), hpm.mem_iff.mpr (List.mem_append_left _ List.mem_cons_self), rfl⟩)
  refine ⟨hsp.1, fun t ht => ?_⟩
  rw [tog, hsp.2 t ht]
  have hc : cov (srtP (spanL 0 0 one ++ spanL 0 late other)) t ↔ cov (spanL 0 0 one) t ∨ cov (spanL 0 late other) t := by
    constructor
    · rintro ⟨p, hp, g⟩
      rcases List.mem_append.mp (hpm.mem_iff.mp hp) with z | z
      · exact .inl ⟨p, z, g⟩
      · exact .inr ⟨p, z, g⟩
    · rintro (⟨p, hp, g⟩ | ⟨p, hp, g⟩)
      · exact ⟨p, hpm.mem_iff.mpr (List.mem_append_left _ hp), g⟩
      · exact ⟨p, hpm.mem_iff.mpr (List.mem_append_right _ hp), g⟩
  rw [hc, span_lit one 0 0 t h1.2, span_lit other 0 late t h2.2, Int.sub_zero]
  constructor
  · rintro (z | z)
    · exact .inl z.2
    · exact .inr z
  · rintro (z | z)
    · exact .inl ⟨ht, z⟩
    · exact .inr z
theorem span_len : ∀ (s : List Int) (i : Nat) (b : Int), (spanL i b s).length ≤ s.length
  | [], _, _ => Nat.le_refl _
  | m :: r, i, b => by
    have := span_len r (i + 1) (b + m)
    rw [spanL, List.length_cons]
    split
    · rw [List.length_cons]
      omega
    · omega
theorem rowD_cut_m {s : List Int} : dCut (rowD s) none (some (-1)) = .ok (rowD s.dropLast) := by
  unfold rowD
  rw [dCut_t, cut_m, List.map_dropLast]
end LC

set_option Elab.async false
set_option linter.all false
set_option maxRecDepth 100000
set_option maxHeartbeats 4000000
/-! LC: how long a lamp is lit -/
namespace LC
open PySem L2
theorem step_len (a : List Int × Int) (p : Int × Int) : (stepT a p).1.length ≤ a.1.length + 2 := by
  unfold stepT
  split
  · simp only [List.length_cons, List.length_nil]; omega
  · split
    · simp only [List.length_append, List.length_cons, List.length_nil]; omega
    · split
      · simp only [List.length_append, List.length_cons, List.length_nil, List.length_dropLast]; omega
      · omega
theorem fold_len : ∀ (l : List (Int × Int)) (a : List Int × Int), (l.foldl stepT a).1.length ≤ a.1.length + 2 * l.length
  | [], a => Nat.le_refl _
  | p :: l, a => by
    have h1 := step_len a p
    have h2 := fold_len l (stepT a p)
    rw [List.foldl_cons, List.length_cons]
    omega
theorem tog_len (a b : List Int) (c : Int) : (tog a b c).length ≤ 2 * (a.length + b.length) := by
  have h := fold_len (srtP (spanL 0 0 a ++ spanL 0 c b)) ([], 0)
  rw [(srtP_perm _).length_eq, List.length_append, List.length_nil] at h
  have h1 := span_len a 0 0
  have h2 := span_len b 0 c
  show (List.foldl stepT ([], 0) (srtP (spanL 0 0 a ++ spanL 0 c b))).1.length ≤ _
  omega
/-- the last time at which a stream is lit fixes its sum -/
theorem sum_of {s : List Int} {T : Int} (h : Can s) (hT : 1 ≤ T) (h1 : litL 0 s (T - 1) = true) (h2 : ∀ t, T ≤ t → litL 0 s t = false) : s.sum = T := by
  have hp := can_pos h
  have e1 := can_last h
  have nn : ∀ m ∈ s, 0 ≤ m := fun m hm => by
    have := h.2 m hm
    omega
  rcases Int.lt_trichotomy s.sum T with z | z | z
  · rw [lit_beyond s 0 (T - 1) nn (by omega)] at h1
    cases h1
  · exact z
  · rw [h2 (s.sum - 1) (by omega)] at e1
    cases e1
theorem tog_sum {one other : List Int} {late : Int} (h1 : Can one) (h2 : Can other) (h3 : 0 ≤ late) : (tog one other late).sum = max one.sum (late + other.sum) := by
  have ht := tog_can h1 h2 h3
  have p1 := can_pos h1
  have p2 := can_pos h2
  have n1 : ∀ m ∈ one, 0 ≤ m := fun m hm => by
    have := h1.2 m hm
    omega
  have n2 : ∀ m ∈ other, 0 ≤ m := fun m hm => by
    have := h2.2 m hm
    omega
  refine sum_of ht.1 (by omega) ?_ fun t hT => ?_
  · rw [ht.2 _ (by omega)]
    by_cases hz : late + other.sum ≤ one.sum
    · rw [show max one.sum (late + other.sum) = one.sum by omega]
      exact .inl (can_last h1)
    · rw [show max one.sum (late + other.sum) = late + other.sum by omega]
      refine .inr ⟨by omega, ?_⟩
      rw [show late + other.sum - 1 - late = other.sum - 1 by omega]
      exact can_last h2
  · cases hb : litL 0 (tog one other late) t with
    | false => rfl
    | true =>
      rcases (ht.2 t (by omega)).mp hb with z | z
      · rw [lit_beyond one 0 t n1 (by omega)] at z
        cases z
      · rw [lit_beyond other 0 (t - late) n2 (by omega)] at z
        cases z.2
/-! counting the lit times -/
def lc (f : Int → Bool) : Nat → Int
  | 0 => 0
  | n + 1 => lc f n + (if f n = true then 1 else 0)
theorem lc_add (f : Int → Bool) (a : Nat) : ∀ b : Nat, lc f (a + b) = lc f a + lc (fun t => f (a + t)) b
  | 0 => by
    show lc f a = lc f a + 0
    omega
  | b + 1 => by
    show lc f (a + b) + (if f ((a + b : Nat) : Int) = true then 1 else 0) = lc f a + (lc (fun t => f (a + t)) b + (if f ((a : Int) + (b : Int)) = true then 1 else 0))
    rw [lc_add f a b, Int.natCast_add]
    omega
theorem lc_congr {f g : Int → Bool} : ∀ n : Nat, (∀ t : Nat, t < n → f t = g t) → lc f n = lc g n
  | 0, _ => rfl
  | n + 1, h => by
    rw [lc, lc, lc_congr n fun t ht => h t (by omega), h n (by omega)]
theorem lc_mono {f g : Int → Bool} : ∀ n : Nat, (∀ t : Nat, t < n → f t = true → g t = true) → lc f n ≤ lc g n
  | 0, _ => Int.le_refl _
  | n + 1, h => by
    have ih := lc_mono n fun t ht => h t (by omega)
    have hn := h n (by omega)
    rw [lc, lc]
    by_cases hf : f n = true
    · rw [if_pos hf, if_pos (hn hf)]
      omega
    · rw [if_neg hf]
      split <;> omega
theorem lc_or {f g k : Int → Bool} : ∀ n : Nat, (∀ t : Nat, t < n → k t = true → f t = true ∨ g t = true) → lc k n ≤ lc f n + lc g n
  | 0, _ => Int.le_refl _
  | n + 1, h => by
    have ih := lc_or n fun t ht => h t (by omega)
    have hn := h n (by omega)
    rw [lc, lc, lc]
    by_cases hk : k n = true
    · rcases hn hk with z | z
      · rw [if_pos hk, if_pos z]
        split <;> omega
      · rw [if_pos hk, if_pos z]
        split <;> omega
    · rw [if_neg hk]
      split <;> split <;> omega
theorem lc_false {f : Int → Bool} : ∀ n : Nat, (∀ t : Nat, t < n → f t = false) → lc f n = 0
  | 0, _ => rfl
  | n + 1, h => by
    rw [lc, lc_false n fun t ht => h t (by omega), h n (by omega)]
    rfl
theorem lc_true {f : Int → Bool} : ∀ n : Nat, (∀ t : Nat, t < n → f t = true) → lc f n = n
  | 0, _ => rfl
  | n + 1, h => by
    rw [lc, lc_true n fun t ht => h t (by omega), h n (by omega), if_pos rfl]
    omega
/-- the lit times of a stream -/
theorem lc_lit : ∀ (s : List Int) (i : Nat) (N : Nat), (∀ m ∈ s, 1 ≤ m) → s.sum ≤ N → lc (litL i s) N = if (i : Int) % 2 = 0 then (evens s).sum else (evens s.tail).sum
  | [], i, N, _, _ => by
    rw [lc_false N fun t _ => rfl]
    split <;> rfl
  | m :: r, i, N, h, hN => by
    have hm := h m List.mem_cons_self
    have hr := fun m' hm' => h m' (List.mem_cons_of_mem _ hm')
    rw [List.sum_cons] at hN
    have hs := sum_nn r fun m' hm' => by
      have := hr m' hm'
      omega
    obtain ⟨M, rfl⟩ : ∃ M : Nat, m = M := ⟨m.toNat, by omega⟩
    obtain ⟨N', rfl⟩ : ∃ N' : Nat, N = M + N' := ⟨N - M, by omega⟩
    have ih := lc_lit r (i + 1) N' hr (by omega)
    rw [lc_add, lc_congr (g := litL (i + 1) r) N' (fun t _ => lit_skip (by omega)), ih]
    by_cases hi : (i : Int) % 2 = 0
    · rw [if_pos hi, if_neg (by omega), lc_true M (fun t ht => by rw [lit_head (by omega)]; exact decide_eq_true hi)]
      cases r with
      | nil => show (M : Int) + 0 = M + 0; rfl
      | cons a r => rfl
    · rw [if_neg hi, if_pos (by omega), lc_false M (fun t ht => by rw [lit_head (by omega)]; exact decide_eq_false hi), Int.zero_add]
      rfl
theorem lc_can {s : List Int} (h : Can s) {N : Nat} (hN : s.sum ≤ N) : lc (litL 0 s) N = (evens s).sum := by
  rw [lc_lit s 0 N h.2 hN]
  exact if_pos rfl
theorem lc_shift {s : List Int} (h : Can s) (late N : Nat) (hN : (late : Int) + s.sum ≤ N) : lc (fun t => decide ((late : Int) ≤ t) && litL 0 s (t - late)) N = (evens s).sum := by
  have hp := can_pos h
  obtain ⟨N', rfl⟩ : ∃ N' : Nat, N = late + N' := ⟨N - late, by omega⟩
  rw [lc_add, lc_false late (fun t ht => by rw [decide_eq_false (by omega)]; rfl), Int.zero_add, lc_congr (g := litL 0 s) N' (fun t ht => by
    rw [decide_eq_true (by omega), Bool.true_and, show (late : Int) + (t : Int) - late = t by omega])]
  exact lc_can h (by omega)
theorem tog_lit_lo {one other : List Int} {late : Int} (h1 : Can one) (h2 : Can other) (h3 : 0 ≤ late) : (evens one).sum ≤ (evens (tog one other late)).sum ∧ (evens other).sum ≤ (evens (tog one other late)).sum := by
  have ht := tog_can h1 h2 h3
  have hs := tog_sum h1 h2 h3
  have hp := can_pos ht.1
  obtain ⟨L, rfl⟩ : ∃ L : Nat, late = L := ⟨late.toNat, by omega⟩
  obtain ⟨N, hN⟩ : ∃ N : Nat, (tog one other L).sum = N := ⟨(tog one other L).sum.toNat, by omega⟩
  rw [← lc_can ht.1 (N := N) (by omega)]
  constructor
  · rw [← lc_can h1 (N := N) (by omega)]
    exact lc_mono N fun t _ z => (ht.2 t (by omega)).mpr (.inl z)
  · rw [← lc_shift h2 L N (by omega)]
    exact lc_mono N fun t _ z => by
      rw [Bool.and_eq_true] at z
      exact (ht.2 t (by omega)).mpr (.inr ⟨of_decide_eq_true z.1, z.2⟩)
theorem tog_lit_hi {one other : List Int} {late : Int} (h1 : Can one) (h2 : Can other) (h3 : 0 ≤ late) : (evens (tog one other late)).sum ≤ (evens one).sum + (evens other).sum := by
  have ht := tog_can h1 h2 h3
  have hs := tog_sum h1 h2 h3
  have hp := can_pos ht.1
  obtain ⟨L, rfl⟩ : ∃ L : Nat, late = L := ⟨late.toNat, by omega⟩
  obtain ⟨N, hN⟩ : ∃ N : Nat, (tog one other L).sum = N := ⟨(tog one other L).sum.toNat, by omega⟩
  rw [← lc_can ht.1 (N := N) (by omega), ← lc_can h1 (N := N) (by omega), ← lc_shift h2 L N (by omega)]
  refine lc_or N fun t _ z => ?_
  rcases (ht.2 t (by omega)).mp z with y | y
  · exact .inl y
  · refine .inr ?_
    rw [Bool.and_eq_true]
    exact ⟨decide_eq_true y.1, y.2⟩
end LC

set_option Elab.async false
set_option linter.all false
set_option maxRecDepth 100000
set_option maxHeartbeats 4000000
/-! LC: two orders at once -/
namespace LC
open PySem L2
theorem lcS_2 {f : D → R (Option D)} {a b x y : D} (h1 : f a = .ok (some x)) (h2 : f b = .ok (some y)) : lcS f [a, b] = .ok (.lst [x, y]) := by
  unfold lcS
  rw [if_pos (by show 2 ≤ LIM; decide), lcGo, h1, lcGo, h2, lcGo]
  rfl
theorem rgL_2 : rgL 0 2 = [.int 0, .int 1] := rfl
theorem add_rr {a b : List Int} (h : a.length + b.length ≤ 1000000) : dBin .Add (rowD a) (rowD b) = .ok (rowD (a ++ b)) := by
  unfold rowD
  rw [add_tt (by rw [List.length_map, List.length_map]; exact h), List.map_append]
theorem rowD_1 (t : Int) : D.tup [.int t] = rowD [t] := rfl
theorem rowD_2 (t u : Int) : D.tup [.int t, .int u] = rowD [t, u] := rfl
theorem ix_rm {l : List Int} {z : Int} : dIdx (rowD (l ++ [z])) (.int (-1)) = .ok (.int z) := by
  unfold rowD
  rw [List.map_append]
  exact ix_tm
theorem lit_cat {a b : List Int} (ha : ∀ m ∈ a, 0 ≤ m) {t : Int} (ht : 0 ≤ t) (i : Nat) : litL i (a ++ b) t = if t < a.sum then litL i a t else litL (i + a.length) b (t - a.sum) := by
  by_cases h : t < a.sum
  · rw [if_pos h, lit_in a i t ht h]
  · rw [if_neg h]
    have := lit_app (q := b) a i (t - a.sum) ha (by omega)
    rw [show a.sum + (t - a.sum) = t by omega] at this
    exact this
theorem can_nn {s : List Int} (h : Can s) : ∀ m ∈ s, 0 ≤ m := fun m hm => by
  have := h.2 m hm
  omega
theorem can_1 {t : Int} (h : 1 ≤ t) : Can [t] := ⟨rfl, fun u hu => by rw [List.mem_singleton.mp hu]; exact h⟩
theorem lit_1 {m t : Int} : litL 0 [m] t = decide (t < m) := by
  rw [litL]
  by_cases h : t < m
  · rw [if_pos h, decide_eq_true h]
    rfl
  · rw [if_neg h, decide_eq_false h]
    rfl
/-- two rows, a pause between -/
theorem tog_two {one other : List Int} {rest : Int} (h1 : Can one) (h2 : Can other) (hr : 1 ≤ rest) : tog one other (one.sum + rest) = one ++ rest :: other := by
  have p1 := can_pos h1
  have ht := tog_can h1 h2 (show 0 ≤ one.sum + rest by omega)
  have hc : Can (one ++ rest :: other) := by
    refine ⟨?_, fun t hm => ?_⟩
    · rw [List.length_append, List.length_cons]
      have := h1.1
      have := h2.1
      omega
    · rcases List.mem_append.mp hm with z | z
      · exact h1.2 t z
      · rcases List.mem_cons.mp z with rfl | z
        · exact hr
        · exact h2.2 t z
  refine can_uniq ht.1 hc fun t ht0 => ?_
  rw [Bool.eq_iff_iff, ht.2 t ht0, lit_cat (can_nn h1) ht0, Nat.zero_add]
  have ho := h1.1
  by_cases c1 : t < one.sum
  · rw [if_pos c1]
    exact ⟨fun z => z.elim id fun y => by omega, .inl⟩
  · rw [if_neg c1, litL]
    have hb := lit_beyond one 0 t (can_nn h1) (by omega)
    by_cases c2 : t - one.sum < rest
    · rw [if_pos c2, hb, decide_eq_false (by omega)]
      exact ⟨fun z => z.elim id fun y => by omega, .inl⟩
    · rw [if_neg c2, hb, show t - one.sum - rest = t - (one.sum + rest) by omega, show one.length + 1 = 2 * ((one.length + 1) / 2) by omega, lit_even]
      exact ⟨fun z => z.elim (fun y => (nomatch y)) fun y => y.2, fun z => .inr ⟨by omega, z⟩⟩
/-- a part of what is lit changes nothing -/
theorem tog_part {one other : List Int} {late : Int} (h1 : Can one) (h2 : Can other) (h3 : 0 ≤ late) (h : ∀ t, late ≤ t → litL 0 other (t - late) = true → litL 0 one t = true) : tog one other late = one := by
  have ht := tog_can h1 h2 h3
  refine can_uniq ht.1 h1 fun t ht0 => ?_
  rw [Bool.eq_iff_iff, ht.2 t ht0]
  exact ⟨fun z => z.elim id fun y => h t y.1 y.2, .inl⟩
/-- behind the end, at once -/
theorem tog_end {pre : List Int} {l x : Int} (h1 : Can (pre ++ [l])) (hx : 1 ≤ x) : tog (pre ++ [l]) [x] (pre ++ [l]).sum = pre ++ [l + x] := by
  have p1 := can_pos h1
  have ht := tog_can h1 (can_1 hx) (show 0 ≤ (pre ++ [l]).sum by omega)
  have hsum : (pre ++ [l]).sum = pre.sum + l := by rw [List.sum_append]; simp
  have hl := h1.2 l (List.mem_append_right _ (List.mem_singleton.mpr rfl))
  have hpre : ∀ m ∈ pre, 0 ≤ m := fun m hm => can_nn h1 m (List.mem_append_left _ hm)
  have hpe : pre.length % 2 = 0 := by
    have := h1.1
    rw [List.length_append, List.length_cons, List.length_nil] at this
    omega
  have hc : Can (pre ++ [l + x]) := by
    refine ⟨?_, fun t hm => ?_⟩
    · rw [List.length_append, List.length_cons, List.length_nil]
      omega
    · rcases List.mem_append.mp hm with z | z
      · exact h1.2 t (List.mem_append_left _ z)
      · rw [List.mem_singleton.mp z]
        omega
  have hpn := sum_nn pre hpre
  refine can_uniq ht.1 hc fun t ht0 => ?_
  rw [Bool.eq_iff_iff, ht.2 t ht0, lit_cat hpre ht0, lit_cat hpre ht0, Nat.zero_add, hsum, lit_1]
  by_cases c1 : t < pre.sum
  · rw [if_pos c1, if_pos c1]
    exact ⟨fun z => z.elim id fun y => by omega, .inl⟩
  · rw [if_neg c1, if_neg c1, show pre.length = 2 * (pre.length / 2) by omega, lit_even, lit_even, lit_1, lit_1, decide_eq_true_eq, decide_eq_true_eq, decide_eq_true_eq]
    omega
/-- behind the end, a pause later -/
theorem lit_seg {pre post : List Int} {m t : Int} (hp : ∀ x ∈ pre, 0 ≤ x) (he : pre.length % 2 = 0) (h1 : pre.sum ≤ t) (h2 : t < pre.sum + m) : litL 0 (pre ++ m :: post) t = true := by
  have hpn := sum_nn pre hp
  rw [lit_cat hp (by omega), if_neg (by omega), Nat.zero_add, litL, if_pos (by omega)]
  exact decide_eq_true (by omega)
end LC

set_option Elab.async false
set_option linter.all false
set_option maxRecDepth 100000
set_option maxHeartbeats 4000000
/-! LC: ticks -/
namespace LC
open PySem L2
def tickL : Nat → List Int → List Bool
  | _, [] => []
  | i, m :: r => List.replicate m.toNat (decide ((i : Int) % 2 = 0)) ++ tickL (i + 1) r
theorem tick_len : ∀ (s : List Int) (i : Nat), (∀ m ∈ s, 0 ≤ m) → ((tickL i s).length : Int) = s.sum
  | [], _, _ => rfl
  | m :: r, i, h => by
    have h1 := h m List.mem_cons_self
    have h2 := tick_len r (i + 1) fun m hm => h m (List.mem_cons_of_mem _ hm)
    rw [tickL, List.length_append, List.length_replicate, List.sum_cons]
    omega
theorem tick_get : ∀ (s : List Int) (i k : Nat), (∀ m ∈ s, 0 ≤ m) → (tickL i s)[k]? = if (k : Int) < s.sum then some (litL i s k) else none
  | [], i, k, _ => by
    rw [tickL, List.sum_nil, if_neg (by omega)]
    rfl
  | m :: r, i, k, h => by
    have h1 := h m List.mem_cons_self
    have h2 := sum_nn r fun m hm => h m (List.mem_cons_of_mem _ hm)
    rw [tickL, List.sum_cons, litL]
    by_cases hk : (k : Int) < m
    · rw [List.getElem?_append_left (by rw [List.length_replicate]; omega), List.getElem?_replicate, if_pos (by omega), if_pos (by omega), if_pos hk]
    · rw [List.getElem?_append_right (by rw [List.length_replicate]; omega), List.length_replicate, tick_get r (i + 1) _ (fun m hm => h m (List.mem_cons_of_mem _ hm)), if_neg hk, show ((k - m.toNat : Nat) : Int) = k - m by omega]
      by_cases hs : (k : Int) - m < r.sum
      · rw [if_pos hs, if_pos (by omega)]
      · rw [if_neg hs, if_neg (by omega)]
theorem tick_pad {s : List Int} (h : ∀ m ∈ s, 0 ≤ m) (late pad : Nat) : List.replicate late false ++ tickL 0 s ++ List.replicate pad false = (List.range (late + s.sum.toNat + pad)).map fun k : Nat => decide ((late : Int) ≤ k) && litL 0 s ((k : Int) - late) := by
  have hl := tick_len s 0 h
  apply List.ext_getElem?
  intro k
  rw [List.getElem?_map]
  by_cases c1 : k < late
  · rw [List.getElem?_append_left (by rw [List.length_append, List.length_replicate]; omega), List.getElem?_append_left (by rw [List.length_replicate]; omega), List.getElem?_replicate, if_pos c1, List.getElem?_range (by omega), Option.map_some, decide_eq_false (by omega), Bool.false_and]
  · by_cases c2 : k < late + s.sum.toNat
    · rw [List.getElem?_append_left (by rw [List.length_append, List.length_replicate]; omega), List.getElem?_append_right (by rw [List.length_replicate]; omega), List.length_replicate, tick_get s 0 _ h, if_pos (by omega), List.getElem?_range (by omega), Option.map_some, decide_eq_true (by omega), Bool.true_and, show ((k - late : Nat) : Int) = (k : Int) - late by omega]
    · rw [List.getElem?_append_right (by rw [List.length_append, List.length_replicate]; omega), List.length_append, List.length_replicate, List.getElem?_replicate]
      by_cases c3 : k < late + s.sum.toNat + pad
      · rw [if_pos (by omega), List.getElem?_range (by omega), Option.map_some, lit_beyond s 0 _ h (by omega), Bool.and_false]
      · rw [if_neg (by omega), List.getElem?_eq_none (by rw [List.length_range]; omega)]
        rfl
theorem sh_bls {n : Nat} : ∀ l : List Bool, (l.map D.bl).all (shD n) = true
  | [] => rfl
  | x :: r => by rw [List.map_cons, List.all_cons, sh_bl, sh_bls r]; rfl
theorem sh9_bls (l : List Bool) : shD 9 (.lst (l.map D.bl)) = true := sh_bls l
theorem deqL_bls : ∀ l m : List Bool, deqL (l.map D.bl) (m.map D.bl) = decide (l = m)
  | [], [] => deqL_nil
  | [], _ :: _ => deqL_nc
  | _ :: _, [] => deqL_cn
  | x :: r, y :: q => by
    rw [List.map_cons, List.map_cons, deqL_cons, deq_bb, deqL_bls r q, ← Bool.decide_and]
    exact decide_eq_decide.mpr (by simp)
theorem mul_l1b {b : Bool} {k : Int} (h1 : 0 ≤ k) (h2 : k ≤ 1000) : dBin .Mult (.lst [.bl b]) (.int k) = .ok (.lst ((List.replicate k.toNat b).map D.bl)) := by
  rw [mul_l1 h1 h2, List.map_replicate]
def orD : D → D
  | .tup [.bl a, .bl b] => .bl (a || b)
  | d => d
end LC

set_option Elab.async false
set_option linter.all false
set_option maxRecDepth 100000
set_option maxHeartbeats 4000000
/-! LC: any data (k01) -/
namespace LC
open PySem L2
theorem isi_non {t : Ty} : rB (dIsi .non t) = .ok (.bl false) := by cases t <;> rfl
theorem isi_stl {s : Str} : rB (dIsi (.str s) .list) = .ok (.bl false) := rfl
theorem isi_btl {b : Bool} : rB (dIsi (.bl b) .list) = .ok (.bl false) := rfl
theorem isi_ttb {xs : List D} : rB (dIsi (.tup xs) .bool) = .ok (.bl false) := rfl
theorem isi_llb {xs : List D} : rB (dIsi (.lst xs) .bool) = .ok (.bl false) := rfl
theorem add_bi {b : Bool} {j : Int} : dBin .Add (.bl b) (.int j) = .ok (.int ((if b = true then (1 : Int) else 0) + j)) := rfl
theorem sub_bi {b : Bool} {j : Int} : dBin .Sub (.bl b) (.int j) = .ok (.int ((if b = true then (1 : Int) else 0) - j)) := rfl
theorem sub_ib {b : Bool} {i : Int} : dBin .Sub (.int i) (.bl b) = .ok (.int (i - if b = true then (1 : Int) else 0)) := rfl
theorem mod_bi {b : Bool} {j : Int} (h : 0 < j) : dBin .Mod (.bl b) (.int j) = .ok (.int ((if b = true then (1 : Int) else 0) % j)) := if_pos h
theorem deq_bi {b : Bool} {j : Int} : deq (.bl b) (.int j) = decide ((if b = true then (1 : Int) else 0) = j) := by
  unfold deq
  rw [toPy, toPy, PyData.eqv]
  exact Bool.eq_iff_iff.mpr (by cases b <;> simp)
/-! kinds -/
def wh (lo hi : Int) : D → Bool
  | .int i => decide (lo ≤ i) && decide (i ≤ hi)
  | _ => false
def isB : D → Bool
  | .bl _ => true
  | _ => false
def nrD : D → Bool
  | .ref _ => false
  | _ => true
def tmD : D → Bool
  | .int i => decide (0 < i)
  | _ => false
theorem isi_B {d : D} (h : nrD d = true) : rB (dIsi d .bool) = .ok (.bl (isB d)) := by
  cases d <;> first | rfl | cases h
theorem wh_int {lo hi : Int} {d : D} (h : wh lo hi d = true) : ∃ i, d = .int i ∧ lo ≤ i ∧ i ≤ hi := by
  cases d with
  | int i =>
    rw [wh, Bool.and_eq_true, decide_eq_true_eq, decide_eq_true_eq] at h
    exact ⟨i, rfl, h⟩
  | _ => cases h
def inW (w : Str) : Bool := ("far" : Str) == w || (("wide" : Str) == w || ("turn" : Str) == w)
def ltM : D → D → D → D → Bool
  | .int b, .int c, .int d, .int g => decide (2 * g < d) && (decide (g < b) && decide (g < c))
  | _, _, _, _ => false
def mkB (w : Str) (b c d e f g : D) : Bool := inW w && (wh 1 9999 b && (wh 1 9999 c && (wh 2 999 d && (wh 1 12 e && (isB f && (wh 0 499 g && ltM b c d g))))))
theorem min_lt {a b c : Int} : decide (a < min b c) = (decide (a < b) && decide (a < c)) := by
  rw [← Bool.decide_and]
  exact decide_eq_decide.mpr (by omega)
theorem in_ways {w : Str} (h : PyData.strOk w = true) : dCmp .NotIn (.str w) (.tup [.str "far", .str "wide", .str "turn"]) = .ok (.bl (!inW w)) := by
  rw [nin_tup (by rw [sh_str]; exact h) (by decide +kernel)]
  simp only [List.any_cons, List.any_nil, deq_ss, Bool.or_false]
  rfl
/-! data of a depth, its numbers below a bound -/
def okD (B : Int) : Nat → D → Bool
  | _, .non | _, .bl _ => true
  | _, .int i => decide (i ≤ B)
  | _, .str s => PyData.strOk s
  | _, .ref _ => false
  | 0, .tup _ | 0, .lst _ => false
  | n + 1, .tup xs => xs.all (okD B n)
  | n + 1, .lst xs => xs.all (okD B n)
theorem okD_sh {B : Int} : ∀ (n : Nat) (d : D), okD B n d = true → shD n d = true := by
  intro n
  induction n with
  | zero => intro d h; cases d <;> first | rfl | exact h | cases h
  | succ n ih =>
    intro d h
    cases d with
    | tup xs =>
      rw [okD] at h
      rw [shD]
      exact List.all_eq_true.mpr fun x hx => ih x (List.all_eq_true.mp h x hx)
    | lst xs =>
      rw [okD] at h
      rw [shD]
      exact List.all_eq_true.mpr fun x hx => ih x (List.all_eq_true.mp h x hx)
    | _ => first | rfl | exact h | cases h
theorem okD_nr {B : Int} {n : Nat} {d : D} (h : okD B n d = true) : nrD d = true := by
  cases d <;> first | rfl | (cases n <;> cases h)
theorem okD_mono {B C : Int} (hB : B ≤ C) : ∀ (n : Nat) (d : D), okD B n d = true → okD C (n + 1) d = true := by
  intro n
  induction n with
  | zero =>
    intro d h
    cases d with
    | int i =>
      rw [okD, decide_eq_true_eq] at h
      rw [okD, decide_eq_true_eq]
      omega
    | _ => first | rfl | exact h | cases h
  | succ n ih =>
    intro d h
    cases d with
    | int i =>
      rw [okD, decide_eq_true_eq] at h
      rw [okD, decide_eq_true_eq]
      omega
    | tup xs =>
      rw [okD] at h ⊢
      exact List.all_eq_true.mpr fun x hx => ih x (List.all_eq_true.mp h x hx)
    | lst xs =>
      rw [okD] at h ⊢
      exact List.all_eq_true.mpr fun x hx => ih x (List.all_eq_true.mp h x hx)
    | _ => first | rfl | exact h | cases h
theorem okD_add {B C : Int} (hB : B ≤ C) {n : Nat} (k : Nat) {d : D} (h : okD B n d = true) : okD C (n + (k + 1)) d = true := by
  induction k with
  | zero => exact okD_mono hB n d h
  | succ k ih => exact okD_mono (Int.le_refl C) (n + (k + 1)) d ih
theorem ix_mem {xs : List D} {q : Int} (h0 : 0 ≤ q) (h1 : q < xs.length) : ∃ d ∈ xs, dIdx (.lst xs) (.int q) = .ok d := by
  refine ⟨xs[q.toNat]'(by omega), List.getElem_mem _, ?_⟩
  rw [ix_l h0 h1, getD_ix (by omega)]
theorem ixt_mem {xs : List D} {q : Int} (h0 : 0 ≤ q) (h1 : q < xs.length) : ∃ d ∈ xs, dIdx (.tup xs) (.int q) = .ok d := by
  refine ⟨xs[q.toNat]'(by omega), List.getElem_mem _, ?_⟩
  rw [ix_t h0 h1, getD_ix (by omega)]
theorem str_small {i : Int} (h0 : 0 ≤ i) (h1 : i < 100) : PyData.strOk (toString i : Str) = true := by
  obtain ⟨n, rfl⟩ : ∃ n : Nat, i = n := ⟨i.toNat, by omega⟩
  have : ∀ n : Nat, n < 100 → PyData.strOk (toString (n : Int) : Str) = true := by decide +kernel
  exact this n (by omega)
theorem str_i {i : Int} (h0 : 0 ≤ i) (h1 : i < 100) : dBi .str [.int i] = .ok (.str (toString i : Str)) := if_pos (by omega)
theorem seven {xs : List D} (h : xs.length = 7) : ∃ a b c d e f g, xs = [a, b, c, d, e, f, g] := by
  match xs, h with
  | [a, b, c, d, e, f, g], _ => exact ⟨a, b, c, d, e, f, g, rfl⟩
def noTm (d : D) : Option D := if (!wh 1 (10 ^ 30) d) = true then some d else none
theorem row_eq : ∀ xs : List D, xs.all (okD (10 ^ 30) 8) = true → ((xs.filterMap noTm).isEmpty = (xs.map tmD).all id)
  | [], _ => rfl
  | x :: r, h => by
    rw [List.all_cons, Bool.and_eq_true] at h
    have ih := row_eq r h.2
    have e : wh 1 (10 ^ 30) x = tmD x := by
      cases x with
      | int i =>
        have h1 := h.1
        rw [okD, decide_eq_true_eq] at h1
        rw [wh, tmD, decide_eq_true h1, Bool.and_true]
        exact decide_eq_decide.mpr (by omega)
      | _ => rfl
    rw [List.map_cons, List.all_cons, List.filterMap_cons]
    unfold noTm
    rw [e]
    cases ht : tmD x with
    | true => exact ih
    | false => rfl
theorem row_sh {xs : List D} (h : xs.all (okD (10 ^ 30) 8) = true) : shD 9 (.lst (xs.filterMap noTm)) = true := by
  rw [sh9l]
  refine List.all_eq_true.mpr fun y hy => ?_
  obtain ⟨x, hx, e⟩ := List.mem_filterMap.mp hy
  unfold noTm at e
  split at e
  · cases e
    exact okD_sh 8 _ (List.all_eq_true.mp h _ hx)
  · cases e
theorem deqL_n {xs : List D} : deqL xs [] = xs.isEmpty := by
  cases xs with
  | nil => exact deqL_nil
  | cons x r => exact deqL_cn
theorem deq_ln {xs : List D} : deq (.lst xs) (.lst []) = xs.isEmpty := by
  rw [deq_ll]
  cases xs with
  | nil => exact deqL_nil
  | cons x r => exact deqL_cn
def scD : D → Bool
  | .bl _ => true
  | .int i => decide (-10000000000 ≤ i) && decide (i ≤ 10000000000)
  | .str s => PyData.strOk s
  | _ => false
/-- fit for the tests -/
def Fit (d : D) : Prop := okD (10 ^ 30) 9 d = true ∧ ∀ ys, d = .tup ys → ys.length ≤ 1000
theorem sc_ok {d : D} (h : scD d = true) : okD (10 ^ 30) 0 d = true := by
  cases d with
  | int i =>
    rw [scD, Bool.and_eq_true, decide_eq_true_eq, decide_eq_true_eq] at h
    rw [okD, decide_eq_true_eq]
    omega
  | _ => first | rfl | exact h | cases h
theorem fin_ix {xs : List D} {q : Int} {P : D → Prop} (h0 : 0 ≤ q) (h1 : q < xs.length) (hP : ∀ d ∈ xs, P d) : ∃ d', finish (kRet (dIdx (.lst xs) (.int q))) = .ok d' ∧ P d' := by
  obtain ⟨d, hd, e⟩ := ix_mem h0 h1
  exact ⟨d, by rw [e]; rfl, hP d hd⟩
theorem Fit.of {n : Nat} {d : D} (hn : n ≤ 8) (h : okD (10 ^ 30) n d = true) (hl : ∀ ys, d = .tup ys → ys.length ≤ 1000) : Fit d := by
  have := okD_add (Int.le_refl _) (8 - n) h
  rw [show n + (8 - n + 1) = 9 by omega] at this
  exact ⟨this, hl⟩
theorem fit7 {w : Str} {a b c d g : Int} {f : Bool} (hw : PyData.strOk w = true) (h1 : a ≤ 100000) (h2 : b ≤ 100000) (h3 : c ≤ 100000) (h4 : d ≤ 100000) (h5 : g ≤ 100000) : Fit (.tup [.str w, .int a, .int b, .int c, .int d, .bl f, .int g]) := by
  refine Fit.of (n := 1) (by decide) ?_ fun _ e => by cases e; simp only [List.length_cons, List.length_nil]; omega
  simp only [okD, List.all_cons, List.all_nil, hw, Bool.true_and, Bool.and_true, Bool.and_eq_true, decide_eq_true_eq]
  omega
end LC

set_option Elab.async false
set_option linter.all false
set_option maxRecDepth 100000
set_option maxHeartbeats 4000000
/-! LC: texts, letters, times learnt -/
namespace LC
open PySem L2
section
variable (c : Cf) (ρ : Rho)
theorem ev_mth (m : Mth) (o : E) (es : List E) : ev c (.mth m o es) ρ = b1 (fun x => bs (dMth m x) (evs c es ρ)) (ev c o ρ) := by
  rw [ev]
  cases ev c o ρ with
  | ok x => cases evs c es ρ <;> rfl
  | exc => rfl
  | bad => rfl
theorem ev_rpl (o : E) (x y : Str) : ev c (.rpl o x y) ρ = b1 (fun v => dRpl v (c.glb.lookup x) (c.glb.lookup y)) (ev c o ρ) := by
  rw [ev]; cases ev c o ρ <;> rfl
theorem ev_kin (neg : Bool) (a : E) (x : Str) : ev c (.kin neg a x) ρ = b1 (fun v => dKin neg v (c.dct.lookup x)) (ev c a ρ) := by
  rw [ev]; cases ev c a ρ <;> rfl
theorem ev_kget (x : Str) (a : E) : ev c (.kget x a) ρ = b1 (fun v => dKget v (c.dct.lookup x)) (ev c a ρ) := by
  rw [ev]; cases ev c a ρ <;> rfl
theorem ev_sst (a : E) : ev c (.sst a) ρ = b1 dSst (ev c a ρ) := by
  rw [ev]; cases ev c a ρ <;> rfl
theorem ev_lss (a : E) : ev c (.lss a) ρ = b1 dLss (ev c a ρ) := by
  rw [ev]; cases ev c a ρ <;> rfl
end
/-! texts by their signs -/
abbrev sN (l : List Nat) : Str := ⟨l.toArray⟩
theorem sN_len (l : List Nat) : (sN l).length = l.length := by simp [Str.length]
theorem strsOf_map {α : Type} (f : α → Str) : ∀ l : List α, strsOf (l.map fun x => D.str (f x)) = some (l.map f)
  | [] => rfl
  | x :: r => by
    show (strsOf (r.map fun x => D.str (f x))).map (f x :: ·) = _
    rw [strsOf_map f r]
    rfl
theorem sN_ok {l : List Nat} (h : ∀ c ∈ l, c < 1114112) : PyData.strOk (sN l) = true := by
  unfold PyData.strOk
  rw [← Array.all_toList]
  exact List.all_eq_true.mpr fun c hc => decide_eq_true (h c hc)
theorem len_s {l : List Nat} (h : l.length ≤ 1000000) : dBi .len [.str (sN l)] = .ok (.int l.length) := by
  show (if (sN l).length ≤ LIM then R.ok (D.int (sN l).length) else .bad) = _
  rw [sN_len]
  exact if_pos h
theorem rev_s {l : List Nat} (h : l.length ≤ 1000000) : dStp .rev (.str (sN l)) = .ok (.str (sN l.reverse)) :=
  if_pos ⟨rfl, by rw [sN_len]; exact h⟩
theorem it_s {l : List Nat} : items .seq [.str (sN l)] = .ok (l.map fun c => D.str (sN [c])) := rfl
theorem deq_sN {a b : List Nat} : deq (.str (sN a)) (.str (sN b)) = decide (a = b) := by
  rw [deq_ss]
  exact Bool.eq_iff_iff.mpr ⟨fun h => decide_eq_true (congrArg (fun x : Str => x.cps.toList) (eq_of_beq h)), fun h => by rw [of_decide_eq_true h]; exact beq_self_eq_true _⟩
/-! letters -/
def ABC : Str := "abcdefghijklmnopqrstuvwxyz"
def ltN (l : List Nat) : List Nat := l.map (97 + ·)
theorem ix_abc {i : Nat} (h : i < 26) : dIdx (.str ABC) (.int (i : Int)) = .ok (.str (sN [97 + i])) := by
  have : ∀ i : Nat, i < 26 → atI ABC.cps.toList (i : Int) = some (97 + i) := by decide +kernel
  show (if ABC.length ≤ LIM then (match atI ABC.cps.toList (i : Int) with | some c => R.ok (D.str ⟨#[c]⟩) | none => .bad) else .bad) = _
  rw [if_pos (by decide +kernel), this i h]
theorem in_abc {i n : Nat} (hi : i < 26) (hn : n ≤ 26) : dCmp .In (.str (sN [97 + i])) (.str (cutS ABC none (some (n : Int)))) = .ok (.bl (decide (i < n))) := by
  have : ∀ n : Nat, n ≤ 26 → ∀ i : Nat, i < 26 → decide (97 + i ∈ (cutS ABC none (some (n : Int))).cps.toList) = decide (i < n) := by decide +kernel
  show R.ok (D.bl (decide (97 + i ∈ (cutS ABC none (some (n : Int))).cps.toList))) = _
  rw [this n hn i hi]
theorem index_abc {i : Nat} (h : i < 26) : dMth .index (.str ABC) [.str (sN [97 + i])] = .ok (.int (i : Int)) := by
  have : ∀ i : Nat, i < 26 → Builtin.Str.occurrences ABC (sN [97 + i]) 0 ABC.length 1 = [i] := by decide +kernel
  show (match Builtin.Str.occurrences ABC (sN [97 + i]) 0 ABC.length 1 with | i :: _ => R.ok (D.int (i : Nat)) | [] => .bad) = _
  rw [this i h]
theorem cut_abc {n : Int} : dCut (.str ABC) none (some n) = .ok (.str (cutS ABC none (some n))) := by
  show (if ABC.length ≤ LIM then R.ok (D.str (cutS ABC none (some n))) else .bad) = _
  rw [if_pos (by decide +kernel)]
theorem joinL_nil : ∀ ys : List (List Nat), TL.joinL [] ys = ys.flatten
  | [] => rfl
  | [p] => by simp [TL.joinL]
  | p :: q :: r => by
    show p ++ ([] ++ TL.joinL [] (q :: r)) = _
    rw [joinL_nil (q :: r), List.nil_append]
    rfl
theorem flat_one (f : α → Nat) : ∀ l : List α, (l.map fun x => [f x]).flatten = l.map f
  | [] => rfl
  | x :: r => by
    rw [List.map_cons, List.flatten_cons, flat_one f r]
    rfl
theorem join_lets {l : List Nat} (h : l.length ≤ 1000) : dMth .join (.str "") [.lst (l.map fun i => D.str (sN [97 + i]))] = .ok (.str (sN (ltN l))) := by
  show (match strsOf (l.map fun i => D.str (sN [97 + i])) with | some ss => if (ss.map (fun x : Str => x.length)).sum + ss.length * ("" : Str).length ≤ LIM then R.ok (D.str (Txt.join "" ss)) else .bad | none => .bad) = _
  rw [strsOf_map]
  dsimp only
  have hs : ∀ l : List Nat, (List.map (fun x : Str => x.length) (l.map fun i => sN [97 + i])).sum = l.length := fun l => by
    induction l with
    | nil => rfl
    | cons x r ih =>
      rw [List.map_cons, List.map_cons, List.sum_cons, ih, List.length_cons]
      show 1 + r.length = _
      omega
  rw [hs, List.length_map, if_pos (by show l.length + l.length * 0 ≤ 1000000; omega)]
  have e := SX.join_S [] (l.map fun i => [97 + i])
  rw [joinL_nil, flat_one, List.map_map] at e
  exact congrArg (fun x => R.ok (D.str x)) e
/-! times learnt -/
def tfGo (s : Int) : Option Int → List Int → List Int
  | _, [] => []
  | none, x :: r => (x + s) :: tfGo s (some (x + s)) r
  | some y, x :: r => if y + s < x then (x + s) :: tfGo s (some (x + s)) r else tfGo s (some y) r
def lrnL (row : List Int) (s : Int) : List Int := tfGo s none (srtI row)
def idxL (s t : Int) : List Int → Nat
  | [] => 0
  | x :: r => if (if x - t < 0 then -(x - t) else x - t) ≤ s then 0 else idxL s t r + 1
theorem idx_ok {s t : Int} : ∀ {l : List Int}, (∃ x ∈ l, x - t ≤ s ∧ t - x ≤ s) → ∃ x, l[idxL s t l]? = some x ∧ x - t ≤ s ∧ t - x ≤ s
  | [], ⟨_, h, _⟩ => nomatch h
  | y :: r, h => by
    rw [idxL]
    by_cases c : (if y - t < 0 then -(y - t) else y - t) ≤ s
    · rw [if_pos c]
      refine ⟨y, rfl, ?_⟩
      split at c <;> omega
    · rw [if_neg c, List.getElem?_cons_succ]
      refine idx_ok ?_
      obtain ⟨x, hx, h1, h2⟩ := h
      rcases List.mem_cons.mp hx with rfl | hx
      · exfalso
        split at c <;> omega
      · exact ⟨x, hx, h1, h2⟩
/-- what the times are: rising, far from one another, each begun by a time of the row, and near to all -/
structure Tms (s : Int) (row T : List Int) : Prop where
  gap : T.Pairwise fun a b => a + 2 * s < b
  beg : ∀ x ∈ T, x - s ∈ row
  cov : ∀ t ∈ row, ∃ x ∈ T, x - t ≤ s ∧ t - x ≤ s
theorem tf_some {s : Int} (hs : 0 ≤ s) : ∀ (l : List Int) (y : Int), l.Pairwise (· ≤ ·) → (∀ t ∈ l, y - s ≤ t) → (∀ x ∈ tfGo s (some y) l, y + 2 * s < x) ∧ (tfGo s (some y) l).Pairwise (fun a b => a + 2 * s < b) ∧ (∀ x ∈ tfGo s (some y) l, x - s ∈ l) ∧ ∀ t ∈ l, ∃ x ∈ y :: tfGo s (some y) l, x - t ≤ s ∧ t - x ≤ s
  | [], y, _, _ => ⟨(fun _ h => nomatch h), List.Pairwise.nil, (fun _ h => nomatch h), (fun _ h => nomatch h)⟩
  | a :: r, y, hp, hy => by
    have hp' := List.pairwise_cons.mp hp
    have ha := hy a List.mem_cons_self
    rw [tfGo]
    by_cases c : y + s < a
    · rw [if_pos c]
      obtain ⟨h1, h2, h3, h4⟩ := tf_some hs r (a + s) hp'.2 (fun t ht => by have := hp'.1 t ht; omega)
      refine ⟨fun x hx => ?_, List.pairwise_cons.mpr ⟨h1, h2⟩, fun x hx => ?_, fun t ht => ?_⟩
      · rcases List.mem_cons.mp hx with rfl | hx
        · omega
        · have := h1 x hx
          omega
      · rcases List.mem_cons.mp hx with rfl | hx
        · rw [show a + s - s = a by omega]
          exact List.mem_cons_self
        · exact List.mem_cons_of_mem _ (h3 x hx)
      · rcases List.mem_cons.mp ht with rfl | ht
        · exact ⟨t + s, List.mem_cons_of_mem _ List.mem_cons_self, by omega, by omega⟩
        · obtain ⟨x, hx, g⟩ := h4 t ht
          exact ⟨x, List.mem_cons_of_mem _ hx, g⟩
    · rw [if_neg c]
      obtain ⟨h1, h2, h3, h4⟩ := tf_some hs r y hp'.2 (fun t ht => hy t (List.mem_cons_of_mem _ ht))
      refine ⟨h1, h2, fun x hx => List.mem_cons_of_mem _ (h3 x hx), fun t ht => ?_⟩
      rcases List.mem_cons.mp ht with rfl | ht
      · exact ⟨y, List.mem_cons_self, by omega, by omega⟩
      · exact h4 t ht
theorem tms_ok {s : Int} (hs : 0 ≤ s) (row : List Int) : Tms s row (lrnL row s) := by
  have hm : ∀ t, t ∈ srtI row ↔ t ∈ row := fun t => (srtI_perm row).mem_iff
  have hp := srtI_srt row
  unfold lrnL
  generalize srtI row = l at hm hp
  cases l with
  | nil => exact ⟨List.Pairwise.nil, (fun _ h => nomatch h), fun t ht => by have := (hm t).mpr ht; exact nomatch this⟩
  | cons a r =>
    have hp' := List.pairwise_cons.mp hp
    obtain ⟨h1, h2, h3, h4⟩ := tf_some hs r (a + s) hp'.2 (fun t ht => by have := hp'.1 t ht; omega)
    rw [tfGo]
    refine ⟨List.pairwise_cons.mpr ⟨h1, h2⟩, fun x hx => (hm _).mp ?_, fun t ht => ?_⟩
    · rcases List.mem_cons.mp hx with rfl | hx
      · rw [show a + s - s = a by omega]
        exact List.mem_cons_self
      · exact List.mem_cons_of_mem _ (h3 x hx)
    · rcases List.mem_cons.mp ((hm t).mpr ht) with rfl | ht
      · exact ⟨t + s, List.mem_cons_self, by omega, by omega⟩
      · exact h4 t ht
theorem srtI_rev (row : List Int) : srtI row.reverse = srtI row :=
  List.Perm.eq_of_pairwise (le := fun x y : Int => x ≤ y) (fun a b _ _ x y => Int.le_antisymm x y) (srtI_srt _) (srtI_srt _) ((srtI_perm _).trans ((List.reverse_perm row).trans (srtI_perm row).symm))
theorem times_rev (row : List Int) (s : Int) : lrnL row.reverse s = lrnL row s := by
  unfold lrnL
  rw [srtI_rev]
section
variable {s : Int} {row T : List Int}
theorem Tms.lt (h : Tms s row T) (hs : 0 ≤ s) : T.Pairwise (· < ·) := h.gap.imp fun {a b} z => by omega
theorem Tms.nd (h : Tms s row T) (hs : 0 ≤ s) : T.Nodup := lt_nodup (h.lt hs)
end
/-- no more of the wider -/
theorem inj_len {α β : Type} [DecidableEq β] {P : α → β → Prop} : ∀ {A : List α} {B : List β}, A.Nodup → (∀ a ∈ A, ∃ b ∈ B, P a b) → (∀ a a' b, a ∈ A → a' ∈ A → P a b → P a' b → a = a') → A.length ≤ B.length
  | [], B, _, _, _ => Nat.zero_le _
  | a :: A, B, hn, h, hi => by
    obtain ⟨b, hb, hab⟩ := h a List.mem_cons_self
    have hn' := List.nodup_cons.mp hn
    have := inj_len (A := A) (B := B.erase b) hn'.2 (fun a' ha' => by
      obtain ⟨b', hb', hab'⟩ := h a' (List.mem_cons_of_mem _ ha')
      by_cases e : b' = b
      · subst e
        have := hi a a' b' List.mem_cons_self (List.mem_cons_of_mem _ ha') hab hab'
        subst this
        exact absurd ha' hn'.1
      · exact ⟨b', (List.mem_erase_of_ne e).mpr hb', hab'⟩) (fun x y z hx hy => hi x y z (List.mem_cons_of_mem _ hx) (List.mem_cons_of_mem _ hy))
    rw [List.length_erase_of_mem hb] at this
    have hpos : 0 < B.length := List.length_pos_of_mem hb
    rw [List.length_cons]
    omega
theorem wider_len {s s' : Int} {row T T' : List Int} (hs : 0 ≤ s) (h : Tms s row T) (hs' : s ≤ s') (h' : Tms s' row T') : T'.length ≤ T.length := by
  refine inj_len (P := fun a b => b - (a - s') ≤ s ∧ (a - s') - b ≤ s) (h'.nd (by omega)) (fun a ha => ?_) (fun a a' b ha ha' h1 h2 => ?_)
  · obtain ⟨x, hx, g⟩ := h.cov (a - s') (h'.beg a ha)
    exact ⟨x, hx, g⟩
  · by_cases e : a = a'
    · exact e
    · have key : ∀ (l : List Int), l.Pairwise (fun a b => a + 2 * s' < b) → ∀ x ∈ l, ∀ y ∈ l, x ≠ y → x + 2 * s' < y ∨ y + 2 * s' < x := fun l hl => by
        induction hl with
        | nil => intro x hx; exact nomatch hx
        | cons hd _ ih =>
          intro x hx y hy hne
          rcases List.mem_cons.mp hx with ex | hx2
          · rcases List.mem_cons.mp hy with ey | hy2
            · exact absurd (ex.trans ey.symm) hne
            · rw [ex]
              exact .inl (hd y hy2)
          · rcases List.mem_cons.mp hy with ey | hy2
            · rw [ey]
              exact .inr (hd x hx2)
            · exact ih x hx2 y hy2 hne
      rcases key T' h'.gap a ha a' ha' e with z | z <;> omega
/-- few times, if the row lies close -/
theorem few_times {s : Int} (hs : 0 ≤ s) : ∀ {T : List Int} {lo hi : Int}, T.Pairwise (fun a b => a + 2 * s < b) → (∀ x ∈ T, lo ≤ x - s ∧ x - s ≤ hi) → lo ≤ hi → lo + (2 * s + 1) * ((T.length : Int) - 1) ≤ hi
  | [], lo, hi, _, _, h => by
    show lo + (2 * s + 1) * (0 - 1) ≤ hi
    omega
  | x :: r, lo, hi, hp, hb, h => by
    have hp' := List.pairwise_cons.mp hp
    have hx := hb x List.mem_cons_self
    by_cases hr : r = []
    · subst hr
      show lo + (2 * s + 1) * (1 - 1) ≤ hi
      omega
    · obtain ⟨z, hz⟩ := List.exists_mem_of_ne_nil r hr
      have hz1 := hp'.1 z hz
      have hz2 := hb z (List.mem_cons_of_mem _ hz)
      have := few_times hs (T := r) (lo := x - s + (2 * s + 1)) (hi := hi) hp'.2 (fun y hy => by
        have h1 := hp'.1 y hy
        have h2 := hb y (List.mem_cons_of_mem _ hy)
        omega) (by omega)
      rw [List.length_cons]
      have e : (((r.length + 1 : Nat) : Int) - 1) = ((r.length : Int) - 1) + 1 := by omega
      rw [e, Int.mul_add]
      omega
theorem len_abc : dBi .len [.str ABC] = .ok (.int 26) := by
  show (if ABC.length ≤ LIM then R.ok (D.int ABC.length) else .bad) = _
  rw [if_pos (by decide +kernel)]
  rfl
theorem ix_tn {ns : List Int} {i : Nat} (h : i < ns.length) : dIdx (.tup (ns.map D.int)) (.int (i : Int)) = .ok (.int (ns.getD i 0)) := by
  rw [ix_ti (by omega) (by omega), Int.toNat_natCast]
theorem sorted_t {ns : List Int} : dBi .sorted [.tup (ns.map D.int)] = .ok (.lst ((srtI ns).map D.int)) := by
  show (match intsOf (ns.map D.int) with | some ns => R.ok (D.lst ((srtI ns).map D.int)) | none => .bad) = _
  rw [intsOf_map]
theorem sst_t {ns : List Int} (h : ns.length < 64) : dSst (.tup (ns.map D.int)) = .ok (.lst ((srtU ns).map D.int)) := by
  show (match intsOf (ns.map D.int) with | some ns => if ns.length < 64 then R.ok (D.lst ((srtU ns).map D.int)) else .bad | none => .bad) = _
  rw [intsOf_map]
  exact if_pos h
theorem lss_t {ns : List Int} (h : ns.length < 64) : dLss (.tup (ns.map D.int)) = .ok (.int (srtU ns).length) := by
  show (match intsOf (ns.map D.int) with | some ns => if ns.length < 64 then R.ok (D.int (srtU ns).length) else .bad | none => .bad) = _
  rw [intsOf_map]
  exact if_pos h
def gLet (s : Int) (T : List Int) : D → D
  | .int t => .str (sN [97 + idxL s t T])
  | d => d
theorem gLet_map (s : Int) (T row : List Int) : (row.map D.int).map (gLet s T) = (row.map fun t => idxL s t T).map fun i => D.str (sN [97 + i]) := by
  rw [List.map_map, List.map_map]
  rfl
def gBack (T : List Int) : D → D
  | .str z => .int (T.getD (z.cps.toList.getD 0 0 - 97) 0)
  | d => d
theorem gBack_map (T : List Int) (l : List Nat) : (l.map fun i => D.str (sN [97 + i])).map (gBack T) = (l.map fun i => T.getD i 0).map D.int := by
  rw [List.map_map, List.map_map]
  apply List.map_congr_left
  intro i _
  show D.int (T.getD (97 + i - 97) 0) = D.int (T.getD i 0)
  rw [show 97 + i - 97 = i by omega]
theorem it_lt {l : List Nat} : items .seq [.str (sN (ltN l))] = .ok (l.map fun i => D.str (sN [97 + i])) := by
  rw [it_s]
  unfold ltN
  rw [List.map_map]
  rfl
theorem len_lt {l : List Nat} (h : l.length ≤ 1000000) : dBi .len [.str (sN (ltN l))] = .ok (.int l.length) := by
  rw [len_s (by unfold ltN; rw [List.length_map]; exact h)]
  unfold ltN
  rw [List.length_map]
theorem rev_lt {l : List Nat} (h : l.length ≤ 1000000) : dStp .rev (.str (sN (ltN l))) = .ok (.str (sN (ltN l.reverse))) := by
  rw [rev_s (by unfold ltN; rw [List.length_map]; exact h)]
  unfold ltN
  rw [List.map_reverse]
theorem list_r (T : List Int) : dBi .list [rowD T] = .ok (.lst (T.map D.int)) := rfl
theorem rev_r {T : List Int} (h : T.length ≤ 1000000) : dStp .rev (rowD T) = .ok (rowD T.reverse) := by
  unfold rowD
  rw [rev_t (by rw [List.length_map]; exact h), List.map_reverse]
theorem it_zrr {a b : List Int} : items .zip [rowD a, rowD b] = .ok (zipL (a.map D.int) (b.map D.int)) := rfl
theorem nin_row {x : Int} {row : List Int} : dCmp .NotIn (.int x) (rowD row) = .ok (.bl (!decide (x ∈ row))) := by
  unfold rowD
  rw [nin_tup sh_int (sh_ints row), any_intsD]
theorem maxD_bil {l : List Int} (h : l ≠ []) : dBi .max [.lst (l.map D.int)] = .ok (.int (maxD l)) := by
  cases l with
  | nil => exact absurd rfl h
  | cons x r => exact max_l
def absP : D → D
  | .tup [.int a, .int b] => .int (if a - b < 0 then -(a - b) else a - b)
  | d => d
def subI (s : Int) : D → D
  | .int t => .int (t - s)
  | d => d
theorem subI_map (s : Int) (T : List Int) : (T.map D.int).map (subI s) = (T.map (· - s)).map D.int := by
  rw [List.map_map, List.map_map]
  rfl
theorem zip_gap {g : Int} : ∀ F : List Int, F.Pairwise (fun a b => a + g < b) → ∀ d ∈ zipL (F.map D.int).dropLast ((F.map D.int).drop 1), ∃ a b, d = .tup [.int a, .int b] ∧ a + g < b
  | [], _, d, h => nomatch h
  | [x], _, d, h => nomatch h
  | x :: y :: r, hp, d, h => by
    have hp' := List.pairwise_cons.mp hp
    have h' : d ∈ D.tup [.int x, .int y] :: zipL ((y :: r).map D.int).dropLast (((y :: r).map D.int).drop 1) := h
    rcases List.mem_cons.mp h' with rfl | h'
    · exact ⟨x, y, rfl, hp'.1 y List.mem_cons_self⟩
    · exact zip_gap (y :: r) hp'.2 d h'
theorem zipL_lenL : ∀ a b : List D, (zipL a b).length ≤ a.length
  | [], _ => Nat.zero_le _
  | _ :: _, [] => Nat.zero_le _
  | x :: a, y :: b => by
    show (zipL a b).length + 1 ≤ a.length + 1
    have := zipL_lenL a b
    omega
theorem lt_strOk {l : List Nat} (h : ∀ i ∈ l, i < 26) : PyData.strOk (sN (ltN l)) = true := sN_ok fun c hc => by
  obtain ⟨i, hi, rfl⟩ := List.mem_map.mp hc
  have := h i hi
  omega
theorem len26 {s hi : Int} {L : Nat} (hs : 0 ≤ s) (h : 1 + (2 * s + 1) * ((L : Int) - 1) ≤ hi) (hc : hi ≤ 26 ∨ (hi ≤ 900 ∧ 20 ≤ s)) : L ≤ 26 := by
  by_cases hL : L ≤ 26
  · exact hL
  · exfalso
    rcases hc with hc | ⟨hc, hs2⟩
    · have := Int.mul_le_mul_of_nonneg_right (show (1 : Int) ≤ 2 * s + 1 by omega) (show 0 ≤ (L : Int) - 1 by omega)
      omega
    · have := Int.mul_le_mul_of_nonneg_right (show (41 : Int) ≤ 2 * s + 1 by omega) (show 0 ≤ (L : Int) - 1 by omega)
      omega
/-- a dict of the top with two keys -/
theorem dct_two {K : PySem.W.Frag} {dd : Addr} {h0 h1 : Int} {k0 k1 : Str} {t0 t1 : Tok} {b0 b1 : Bool} {n : Nat} (dm : K.lookup dd = some ⟨.type "dict", none, .dict #[⟨h0, .str k0 t0, .bool b0⟩, ⟨h1, .str k1 t1, .bool b1⟩] n, #[]⟩) :
    ∀ z, ∃ r, PySem.W.nsIn K dd z = some r ∧ DEnt K r (([(k0, D.bl b0), (k1, D.bl b1)] : List (Str × D)).lookup z) := by
  intro z
  unfold PySem.W.nsIn
  rw [dm]
  dsimp only
  by_cases e0 : z = k0
  · subst e0
    refine ⟨some (.bool b0), ?_, ?_⟩
    · simp [PySem.Value.isStr]
    · rw [List.lookup_cons, beq_self_eq_true]
      exact ⟨.bl b0, rfl, fun _ _ => rp_bl⟩
  · have f0 : (k0 == z) = false := beq_eq_false_iff_ne.mpr fun q => e0 q.symm
    have f0' : (z == k0) = false := beq_eq_false_iff_ne.mpr e0
    by_cases e1 : z = k1
    · subst e1
      refine ⟨some (.bool b1), ?_, ?_⟩
      · simp [PySem.Value.isStr, f0]
      · rw [List.lookup_cons, f0']
        show DEnt K _ (List.lookup z [(z, D.bl b1)])
        rw [List.lookup_cons, beq_self_eq_true]
        exact ⟨.bl b1, rfl, fun _ _ => rp_bl⟩
    · have f1 : (k1 == z) = false := beq_eq_false_iff_ne.mpr fun q => e1 q.symm
      have f1' : (z == k1) = false := beq_eq_false_iff_ne.mpr e1
      refine ⟨none, ?_, ?_⟩
      · simp [PySem.Value.isStr, f0, f1, PySem.DictEntry.refKey]
      · rw [List.lookup_cons, f0']
        show DEnt K none (List.lookup z [(k1, D.bl b1)])
        rw [List.lookup_cons, f1']
        trivial
end LC

set_option Elab.async false
set_option linter.all false
set_option maxRecDepth 100000
set_option maxHeartbeats 4000000
/-! LC: texts of rows and makers -/
namespace LC
open PySem L2
def nN (t : Int) : List Nat := TL.numL t.toNat
theorem nN_dig (t : Int) : ∀ c ∈ nN t, 48 ≤ c ∧ c ≤ 57 := TL.numL_digits t.toNat
theorem nN_ne (t : Int) : nN t ≠ [] := TL.numL_ne _
theorem nN_len {t : Int} (h1 : t < 10 ^ 20) : (nN t).length ≤ 20 := TL.numL_len (by decide) (by omega)
theorem num_head : ∀ n : Nat, 0 < n → (TL.numL n).head? ≠ some 48 := by
  intro n
  induction n using Nat.strongRecOn with
  | _ n ih =>
    intro hn
    by_cases h : n < 10
    · rw [TL.numL_lt h]
      intro z
      have : 48 + n = 48 := Option.some.inj z
      omega
    · rw [TL.numL_step (by omega)]
      have hd := ih (n / 10) (by omega) (by omega)
      cases hq : TL.numL (n / 10) with
      | nil => exact absurd hq (TL.numL_ne _)
      | cons a r =>
        rw [hq] at hd
        exact hd
theorem nN_zero : nN 0 = [48] := TL.numL_lt (by decide)
theorem nN_inj {a b : Int} (ha : 0 ≤ a) (hb : 0 ≤ b) (h : nN a = nN b) : a = b := by
  have := TL.numL_inj h
  omega
theorem nN_str {t : Int} (h0 : 0 ≤ t) : (toString t : Str) = sN (nN t) := by
  have e := SX.num_S t.toNat
  rw [show ((t.toNat : Nat) : Int) = t by omega] at e
  exact e
theorem str_n {t : Int} (h0 : 0 ≤ t) (h1 : t < 10 ^ 20) : dBi .str [.int t] = .ok (.str (sN (nN t))) := by
  rw [← nN_str h0]
  exact if_pos (by omega)
theorem int_n {t : Int} (h0 : 0 ≤ t) (h1 : t < 10 ^ 20) : dBi .int [.str (sN (nN t))] = .ok (.int t) := by
  have hl := nN_len h1
  have e := TL.int_num (n := t.toNat) (by have : (TL.numL t.toNat).length ≤ 20 := hl; omega)
  rw [show ((t.toNat : Nat) : Int) = t by omega] at e
  have e2 : intText? (sN (nN t)) = some t := by
    rw [← nN_str h0]
    exact e
  show (if (sN (nN t)).length ≤ 640 then (match intText? (sN (nN t)) with | some n => R.ok (D.int n) | none => .bad) else .bad) = _
  rw [if_pos (by rw [sN_len]; omega), e2]
/-! the row's text -/
def rtN : Nat → List Int → List Nat
  | _, [] => []
  | i, t :: r => (if (i : Int) % 2 = 0 then 43 else 45) :: (nN t ++ rtN (i + 1) r)
theorem rtN_app : ∀ (a b : List Int) (i : Nat), rtN i (a ++ b) = rtN i a ++ rtN (i + a.length) b
  | [], b, i => rfl
  | t :: r, b, i => by
    rw [List.cons_append, rtN, rtN, rtN_app r b (i + 1), List.length_cons, show i + 1 + r.length = i + (r.length + 1) by omega, List.cons_append, List.append_assoc]
theorem rtN_len : ∀ (r : List Int) (i : Nat), (∀ t ∈ r, t < 10 ^ 20) → (rtN i r).length ≤ 21 * r.length
  | [], _, _ => Nat.le_refl _
  | t :: r, i, h => by
    have h1 := nN_len (h t List.mem_cons_self)
    have h2 := rtN_len r (i + 1) fun t ht => h t (List.mem_cons_of_mem _ ht)
    rw [rtN, List.length_cons, List.length_append, List.length_cons]
    omega
theorem rtN_ok : ∀ (r : List Int) (i : Nat), ∀ c ∈ rtN i r, c < 1114112
  | [], _, c, h => nomatch h
  | t :: r, i, c, h => by
    rw [rtN] at h
    rcases List.mem_cons.mp h with rfl | h
    · split <;> decide
    · rcases List.mem_append.mp h with h | h
      · have := nN_dig t c h
        omega
      · exact rtN_ok r (i + 1) c h
def gTxt (i : Nat) : D → Option D
  | .int t => some (.str (sN ((if (i : Int) % 2 = 0 then 43 else 45) :: nN t)))
  | _ => none
def rtW : Nat → List Int → List (List Nat)
  | _, [] => []
  | i, t :: r => ((if (i : Int) % 2 = 0 then 43 else 45) :: nN t) :: rtW (i + 1) r
theorem gTxt_map : ∀ (r : List Int) (i : Nat), enFM gTxt i (r.map D.int) = (rtW i r).map fun w => D.str (sN w)
  | [], _ => rfl
  | t :: r, i => by
    rw [List.map_cons, enFM, rtW, List.map_cons]
    show _ :: enFM gTxt (i + 1) (r.map D.int) = _
    rw [gTxt_map r (i + 1)]
theorem rtW_flat : ∀ (r : List Int) (i : Nat), (rtW i r).flatten = rtN i r
  | [], _ => rfl
  | t :: r, i => by
    rw [rtW, rtN, List.flatten_cons, rtW_flat r (i + 1)]
    rfl
theorem sum_lens : ∀ ws : List (List Nat), ((ws.map sN).map (fun x : Str => x.length)).sum = ws.flatten.length
  | [] => rfl
  | w :: r => by
    rw [List.map_cons, List.map_cons, List.sum_cons, sum_lens r, sN_len, List.flatten_cons, List.length_append]
theorem join_0 {ws : List (List Nat)} (h : ws.flatten.length ≤ 1000000) : dMth .join (.str "") [.lst (ws.map fun w => D.str (sN w))] = .ok (.str (sN ws.flatten)) := by
  show (match strsOf (ws.map fun w => D.str (sN w)) with | some ss => if (ss.map (fun x : Str => x.length)).sum + ss.length * ("" : Str).length ≤ LIM then R.ok (D.str (Txt.join "" ss)) else .bad | none => .bad) = _
  rw [strsOf_map]
  dsimp only
  rw [show (ws.map fun w => sN w) = ws.map sN from rfl, sum_lens, if_pos (by show ws.flatten.length + _ * 0 ≤ 1000000; omega)]
  have e := SX.join_S [] ws
  rw [joinL_nil] at e
  exact congrArg (fun x => R.ok (D.str x)) e
theorem join_rt {r : List Int} (hl : r.length ≤ 1000) (h : ∀ t ∈ r, t < 10 ^ 20) : dMth .join (.str "") [.lst (enFM gTxt 0 (r.map D.int))] = .ok (.str (sN (rtN 0 r))) := by
  have := rtN_len r 0 h
  rw [gTxt_map, join_0 (by rw [rtW_flat]; omega), rtW_flat]
theorem ix_l2m {a b : D} (i : Nat) : dIdx (.lst [a, b]) (.int ((i : Int) % 2)) = .ok (if (i : Int) % 2 = 0 then a else b) := by
  rcases (show (i : Int) % 2 = 0 ∨ (i : Int) % 2 = 1 by omega) with z | z <;> rw [z] <;> rfl
theorem add_ss {a b : List Nat} (h : a.length + b.length ≤ 1000000) : dBin .Add (.str (sN a)) (.str (sN b)) = .ok (.str (sN (a ++ b))) := by
  show (if (sN a).length + (sN b).length ≤ LIM then R.ok (D.str (sN a ++ sN b)) else .bad) = _
  rw [sN_len, sN_len, if_pos (show a.length + b.length ≤ LIM from h), SX.S_cat]
theorem s_plus : ("+" : Str) = sN [43] := rfl
theorem s_minus : ("-" : Str) = sN [45] := rfl
theorem s_nil : ("" : Str) = sN [] := rfl
theorem s_zero : ("0" : Str) = sN [48] := rfl
/-! read again -/
def plus (c : Nat) : Nat := if c = 45 then 43 else c
theorem repl_one : ∀ l : List Nat, StrLaws.replL [45] [43] l = l.map plus
  | [] => StrLaws.replL_nil
  | c :: r => by
    by_cases h : c = 45
    · subst h
      rw [StrLaws.replL_hit (by decide) rfl, List.map_cons]
      show 43 :: StrLaws.replL [45] [43] r = 43 :: r.map plus
      rw [repl_one r]
    · rw [StrLaws.replL_miss (fun z => h (by
        have : [c] = [45] := z
        exact (List.cons.inj this).1)), List.map_cons, repl_one r]
      unfold plus
      rw [if_neg h]
theorem rpl_s {l : List Nat} (h : l.length ≤ 1000000) : dRpl (.str (sN l)) (some (.str "-")) (some (.str "+")) = .ok (.str (sN (l.map plus))) := by
  show (if (("-" : Str) == ("+" : Str)) = false ∧ (sN l).length ≤ LIM ∧ ("+" : Str).length ≤ 14 then R.ok (D.str (Txt.replace (sN l) "-" "+")) else .bad) = _
  rw [if_pos ⟨by decide +kernel, by rw [sN_len]; exact h, by decide +kernel⟩]
  have e := StrLaws.replace_list (x := sN l) (y := "-") (z := "+") (by decide +kernel)
  have e2 : (Txt.replace (sN l) "-" "+") = sN (l.map plus) := TL.ext_tl (e.trans (repl_one l))
  rw [e2]
theorem map_plus_num (t : Int) : (nN t).map plus = nN t := by
  have : ∀ l : List Nat, (∀ c ∈ l, 48 ≤ c ∧ c ≤ 57) → l.map plus = l := fun l => by
    induction l with
    | nil => intro _; rfl
    | cons c r ih =>
      intro h
      have hc := h c List.mem_cons_self
      rw [List.map_cons, ih fun x hx => h x (List.mem_cons_of_mem _ hx)]
      unfold plus
      rw [if_neg (by omega)]
  exact this _ (nN_dig t)
theorem plus_rt : ∀ (r : List Int) (i : Nat), (rtN i r).map plus = TL.joinL [43] ([] :: r.map nN)
  | [], _ => rfl
  | t :: r, i => by
    rw [rtN, List.map_cons, List.map_append, map_plus_num, plus_rt r (i + 1)]
    have hp : plus (if (i : Int) % 2 = 0 then 43 else 45) = 43 := by split <;> rfl
    rw [hp]
    show 43 :: (nN t ++ TL.joinL [43] ([] :: r.map nN)) = [] ++ ([43] ++ TL.joinL [43] (nN t :: r.map nN))
    cases r with
    | nil => simp [TL.joinL]
    | cons u q => rfl
theorem split_rt {r : List Int} {l : List Nat} (hl : l.length ≤ 1000000) (e : l = TL.joinL [43] ([] :: r.map nN)) : dMth .split (.str (sN l)) [.str "+"] = .ok (.lst (([] :: r.map nN).map fun w => D.str (sN w))) := by
  show (if (("+" : Str).length == 0) = false ∧ (sN l).length ≤ LIM then R.ok (D.lst ((Txt.split (sN l) "+").map D.str)) else .bad) = _
  rw [if_pos ⟨by decide +kernel, by rw [sN_len]; exact hl⟩]
  have h1 := SX.split_S (a := l) (b := [43]) (by decide) (by decide)
  rw [e, SX.spl_join (List.cons_ne_nil _ _) (fun p hp => by
    rcases List.mem_cons.mp hp with rfl | hp
    · decide
    · obtain ⟨t, _, rfl⟩ := List.mem_map.mp hp
      intro z
      have := nN_dig t 43 z
      omega), ← e] at h1
  have h2 : Txt.split (sN l) "+" = ([] :: r.map nN).map sN := h1
  rw [h2, List.map_map]
  rfl
def gWord : D → D
  | .str z => .int ((NumText.digitsVal z.cps.toList : Nat) : Int)
  | d => d
theorem gWord_n {t : Int} (h : 0 ≤ t) : gWord (.str (sN (nN t))) = .int t := by
  show D.int ((NumText.digitsVal (TL.numL t.toNat) : Nat) : Int) = _
  rw [TL.numL_val, show ((t.toNat : Nat) : Int) = t by omega]
theorem gWord_map : ∀ r : List Int, (∀ t ∈ r, 0 ≤ t) → ((r.map nN).map fun w => D.str (sN w)).map gWord = r.map D.int
  | [], _ => rfl
  | t :: r, h => by
    rw [List.map_cons, List.map_cons, List.map_cons, List.map_cons, gWord_map r fun t ht => h t (List.mem_cons_of_mem _ ht)]
    exact congrArg (· :: _) (gWord_n (h t List.mem_cons_self))
/-! numbers of words -/
def FIG : Str := "0123456789"
theorem in_fig {c : Nat} (h1 : 48 ≤ c) (h2 : c ≤ 57) : dCmp .In (.str (sN [c])) (.str FIG) = .ok (.bl true) := by
  have : ∀ n : Nat, n < 10 → decide (48 + n ∈ FIG.cps.toList) = true := by decide +kernel
  show R.ok (D.bl (decide (c ∈ FIG.cps.toList))) = _
  have := this (c - 48) (by omega)
  rw [show 48 + (c - 48) = c by omega] at this
  rw [this]
theorem ix_s0 {c : Nat} {l : List Nat} (h : l.length < 1000000) : dIdx (.str (sN (c :: l))) (.int 0) = .ok (.str (sN [c])) := by
  show (if (sN (c :: l)).length ≤ LIM then (match atI (c :: l) 0 with | some c => R.ok (D.str ⟨#[c]⟩) | none => .bad) else .bad) = _
  rw [if_pos (by rw [sN_len, List.length_cons]; exact h), atI_pos (by omega) (by rw [List.length_cons]; omega)]
  rfl
theorem sh_sN {n : Nat} {l : List Nat} (h : ∀ c ∈ l, c < 1114112) : shD n (.str (sN l)) = true := by
  rw [sh_str]
  exact sN_ok h
theorem nN_ok (t : Int) : ∀ c ∈ nN t, c < 1114112 := fun c hc => by
  have := nN_dig t c hc
  omega
theorem cut_s {a b : List Nat} {i : Int} (h : i = (a.length : Int)) (hl : (a ++ b).length ≤ 1000000) : dCut (.str (sN (a ++ b))) none (some i) = .ok (.str (sN a)) := by
  show (if (sN (a ++ b)).length ≤ LIM then R.ok (D.str (cutS (sN (a ++ b)) none (some i))) else .bad) = _
  rw [if_pos (by rw [sN_len]; exact hl), C8.cutS_slice, SX.to_app a b h]
theorem lcS_5 {f : D → R (Option D)} {a b c d e v w x y z : D} (h1 : f a = .ok (some v)) (h2 : f b = .ok (some w)) (h3 : f c = .ok (some x)) (h4 : f d = .ok (some y)) (h5 : f e = .ok (some z)) : lcS f [a, b, c, d, e] = .ok (.lst [v, w, x, y, z]) := by
  unfold lcS
  rw [if_pos (by show 5 ≤ LIM; decide), lcGo, h1, lcGo, h2, lcGo, h3, lcGo, h4, lcGo, h5, lcGo]
  rfl
/-! the maker's words -/
def lowS (b : Bool) : Str := if b = true then "low" else "high"
def mkW (way : Str) (head gap unit bits : Int) (low : Bool) (slip : Int) : List Str := [way, sN (nN head), sN (nN gap), sN (nN unit), sN (nN bits), lowS low, sN (nN slip)]
theorem way_len {way : Str} (h : WayOk way) : way.length ≤ 4 ∧ (32 ∉ TL.tl way) ∧ PyData.strOk way = true := by
  rcases h with rfl | rfl | rfl <;> decide +kernel
theorem low_len (b : Bool) : (lowS b).length ≤ 4 ∧ (32 ∉ TL.tl (lowS b)) ∧ PyData.strOk (lowS b) = true := by
  cases b <;> decide +kernel
theorem num_free (t : Int) : 32 ∉ TL.tl (sN (nN t)) := fun z => by
  have := nN_dig t 32 z
  omega
section
variable {way : Str} {head gap unit bits slip : Int} {low : Bool}
theorem join_w (hw : WayOk way) (h1 : head < 10 ^ 20) (h2 : gap < 10 ^ 20) (h3 : unit < 10 ^ 20) (h4 : bits < 10 ^ 20) (h5 : slip < 10 ^ 20) : dMth .join (.str " ") [.lst ((mkW way head gap unit bits low slip).map D.str)] = .ok (.str (Txt.join " " (mkW way head gap unit bits low slip))) := by
  show (match strsOf ((mkW way head gap unit bits low slip).map D.str) with | some ss => if (ss.map (fun x : Str => x.length)).sum + ss.length * (" " : Str).length ≤ LIM then R.ok (D.str (Txt.join " " ss)) else .bad | none => .bad) = _
  have e := strsOf_map (fun x : Str => x) (mkW way head gap unit bits low slip)
  rw [List.map_id'] at e
  rw [show (mkW way head gap unit bits low slip).map D.str = (mkW way head gap unit bits low slip).map (fun x => D.str x) from rfl, e]
  dsimp only
  have a1 := (way_len hw).1
  have a2 := (low_len low).1
  have a3 := nN_len h1
  have a4 := nN_len h2
  have a5 := nN_len h3
  have a6 := nN_len h4
  have a7 := nN_len h5
  rw [if_pos]
  unfold mkW
  simp only [List.map_cons, List.map_nil, List.sum_cons, List.sum_nil, sN_len, List.length_cons, List.length_nil]
  show _ + 7 * 1 ≤ 1000000
  omega
theorem split_w (hw : WayOk way) (h1 : head < 10 ^ 20) (h2 : gap < 10 ^ 20) (h3 : unit < 10 ^ 20) (h4 : bits < 10 ^ 20) (h5 : slip < 10 ^ 20) : dMth .split (.str (Txt.join " " (mkW way head gap unit bits low slip))) [.str " "] = .ok (.lst ((mkW way head gap unit bits low slip).map D.str)) := by
  show (if ((" " : Str).length == 0) = false ∧ (Txt.join " " (mkW way head gap unit bits low slip)).length ≤ LIM then R.ok (D.lst ((Txt.split (Txt.join " " (mkW way head gap unit bits low slip)) " ").map D.str)) else .bad) = _
  have a1 := way_len hw
  have a2 := low_len low
  have a3 := nN_len h1
  have a4 := nN_len h2
  have a5 := nN_len h3
  have a6 := nN_len h4
  have a7 := nN_len h5
  have hj : (Txt.join " " (mkW way head gap unit bits low slip)).length ≤ 1000000 := by
    rw [TL.len_tl, TL.join_eq, TL.tl_join]
    unfold mkW
    simp only [List.map_cons, List.map_nil, TL.joinL, List.length_append]
    have b1 := a1.1
    have b2 := a2.1
    rw [TL.len_tl] at b1 b2
    have c1 : (TL.tl (" " : Str)).length = 1 := rfl
    have c3 : (TL.tl (sN (nN head))).length = (nN head).length := rfl
    have c4 : (TL.tl (sN (nN gap))).length = (nN gap).length := rfl
    have c5 : (TL.tl (sN (nN unit))).length = (nN unit).length := rfl
    have c6 : (TL.tl (sN (nN bits))).length = (nN bits).length := rfl
    have c7 : (TL.tl (sN (nN slip))).length = (nN slip).length := rfl
    omega
  rw [if_pos ⟨by decide +kernel, hj⟩, TL.split_join (y := " ") (s := 32) (S := []) rfl (by decide +kernel) (parts := mkW way head gap unit bits low slip) (List.cons_ne_nil _ _) (fun p hp => by
    unfold mkW at hp
    simp only [List.mem_cons, List.not_mem_nil, or_false] at hp
    rcases hp with rfl | rfl | rfl | rfl | rfl | rfl | rfl
    · exact a1.2.1
    · exact num_free head
    · exact num_free gap
    · exact num_free unit
    · exact num_free bits
    · exact a2.2.1
    · exact num_free slip)]
end
theorem low_ix {b : Bool} : dIdx (.lst [.str "high", .str "low"]) (.int (if b = true then 1 else 0)) = .ok (.str (lowS b)) := by cases b <;> rfl
theorem sh_words {way : Str} {head gap unit bits slip : Int} {low : Bool} (hw : WayOk way) {n : Nat} : ((mkW way head gap unit bits low slip).map D.str).all (shD n) = true := by
  unfold mkW
  simp only [List.map_cons, List.map_nil, List.all_cons, List.all_nil, sh_str, (way_len hw).2.2, (low_len low).2.2, sN_ok (nN_ok _), Bool.and_true]
theorem oR_some {d : D} : oR (some d) = .ok d := rfl
theorem ix_pm (i : Nat) : dIdx (.str "+-") (.int ((i : Int) % 2)) = .ok (.str (sN [if (i : Int) % 2 = 0 then 43 else 45])) := by
  rcases (show (i : Int) % 2 = 0 ∨ (i : Int) % 2 = 1 by omega) with z | z <;> rw [z] <;> rfl
theorem s_712 : ("-7+12" : Str) = sN [45, 55, 43, 49, 50] := rfl
theorem rt_712 {row : List Int} (h : row.length % 2 = 1) : rtN 0 (row ++ [7, 12]) = rtN 0 row ++ [45, 55, 43, 49, 50] := by
  rw [rtN_app, rtN, rtN, rtN, Nat.zero_add, if_neg (by omega), if_pos (by omega)]
  rfl
theorem cut_r_hi {row : List Int} {i : Int} (h : 0 ≤ i) : dCut (rowD row) none (some i) = .ok (rowD (row.take i.toNat)) := by
  unfold rowD
  rw [dCut_t, cut_hi h, List.map_take]
theorem cut_r_lo {row : List Int} {i : Int} (h : 0 ≤ i) : dCut (rowD row) (some i) none = .ok (rowD (row.drop i.toNat)) := by
  unfold rowD
  rw [dCut_t, cut_lo h, List.map_drop]
theorem rgC_mem {c : Int} {k : Nat} {d : D} (h : d ∈ rgC 0 c k) : ∃ j : Nat, j < k ∧ d = .int ((j : Int) * c) := by
  unfold rgC at h
  obtain ⟨j, hj, rfl⟩ := List.mem_map.mp h
  exact ⟨j, List.mem_range.mp hj, by rw [Int.zero_add]⟩
theorem cut_rt {row : List Int} (k : Nat) (hl : row.length ≤ 1000) (h : ∀ t ∈ row, t < 10 ^ 20) : dCut (.str (sN (rtN 0 row))) none (some ((rtN 0 (row.take k)).length : Int)) = .ok (.str (sN (rtN 0 (row.take k)))) := by
  have ht : rtN 0 row = rtN 0 (row.take k) ++ rtN (0 + (row.take k).length) (row.drop k) := by rw [← rtN_app, List.take_append_drop]
  have hb := rtN_len row 0 h
  rw [ht] at hb
  rw [ht]
  exact cut_s rfl (by omega)
theorem it_er {row : List Int} : items .enum [rowD row] = .ok (enumL 0 (row.map D.int)) := rfl
end LC

set_option Elab.async false
set_option linter.all false
set_option maxRecDepth 100000
set_option maxHeartbeats 4000000
/-! LC: a list of lists that grows (k30) -/
namespace LC
open PySem L2
section
variable {c : Cf} {wf : Nat} {i : Nat} {tg : Tg} {k : Src} {ss : List E} {cond e : E} {r : List S} {ρ ρ2 : Rho}
theorem xs_nst {s : Option D} {ys its l : List D} (h : ρ[i]? = some s) (h1 : evs c ss (ρ.set i (some (.ref 0))) = .ok ys) (h2 : items k ys = .ok its) (h3 : nstGo (nstF c tg cond e) its [] [] (ρ.set i (some (.ref 0))) = .ok (l, ρ2)) : xss c wf (.nst i tg k ss cond e :: r) ρ = xss c wf r (ρ2.set i (some (.lst l))) := by
  rw [xss, xs, h]
  dsimp only
  rw [h1]
  show R.bind (R.bind (items k ys) _) _ = _
  rw [h2]
  show R.bind (R.bind (nstGo (nstF c tg cond e) its [] [] (ρ.set i (some (.ref 0)))) _) _ = _
  rw [h3]
  rfl
theorem nstF_t {a b : Nat} {x y : D} (h : ev c cond ((ρ.set a (some x)).set b (some y)) = .ok (.bl true)) : nstF c (.many [a, b]) cond e (.tup [x, y]) ρ = .ok (none, (ρ.set a (some x)).set b (some y)) := by
  show R.bind (ev c cond ((ρ.set a (some x)).set b (some y))) _ = _
  rw [h]
  rfl
theorem nstF_f {a b : Nat} {x y v : D} (h : ev c cond ((ρ.set a (some x)).set b (some y)) = .ok (.bl false)) (h2 : ev c e ((ρ.set a (some x)).set b (some y)) = .ok v) : nstF c (.many [a, b]) cond e (.tup [x, y]) ρ = .ok (some v, (ρ.set a (some x)).set b (some y)) := by
  show R.bind (ev c cond ((ρ.set a (some x)).set b (some y))) _ = _
  rw [h]
  show R.bind (ev c e ((ρ.set a (some x)).set b (some y))) _ = _
  rw [h2]
  rfl
end
theorem nst_nil {f : D → Rho → R (Option D × Rho)} {dn cu : List D} {ρ : Rho} : nstGo f [] dn cu ρ = .ok (dn ++ [.lst cu], ρ) := rfl
theorem nst_new {f : D → Rho → R (Option D × Rho)} {d : D} {r dn cu : List D} {ρ ρ' : Rho} (h : f d ρ = .ok (none, ρ')) (hl : dn.length < 900000) : nstGo f (d :: r) dn cu ρ = nstGo f r (dn ++ [.lst cu]) [] ρ' := by
  rw [nstGo, h]
  exact if_pos (by show dn.length + 1 < 1000000; omega)
theorem nst_more {f : D → Rho → R (Option D × Rho)} {d x : D} {r dn cu : List D} {ρ ρ' : Rho} (h : f d ρ = .ok (some x, ρ')) (hl : cu.length < 900000) : nstGo f (d :: r) dn cu ρ = nstGo f r dn (cu ++ [x]) ρ' := by
  rw [nstGo, h]
  exact if_pos (by show cu.length < 1000000; omega)
def lstD (r : List Int) : D := .lst (r.map D.int)
/-- what the loop of the law gathers -/
theorem nst_part {f : D → Rho → R (Option D × Rho)} {rest : Int} (st : Option D → Option D → Rho)
    (ht : ∀ (i : Nat) (m : Int) (j9 j10 : Option D), (i : Int) % 2 = 1 ∧ rest ≤ m → f (.tup [.int i, .int m]) (st j9 j10) = .ok (none, st (some (.int i)) (some (.int m))))
    (hf : ∀ (i : Nat) (m : Int) (j9 j10 : Option D), ¬ ((i : Int) % 2 = 1 ∧ rest ≤ m) → f (.tup [.int i, .int m]) (st j9 j10) = .ok (some (.int m), st (some (.int i)) (some (.int m)))) :
    ∀ (q : List Int) (i : Nat) (dn : List (List Int)) (cu : List Int) (j9 j10 : Option D), i % 2 = 0 → dn.length + q.length ≤ 1000 → cu.length + q.length ≤ 1000 → ∃ j9' j10', nstGo f (enumL i (q.map D.int)) (dn.map lstD) (cu.map D.int) (st j9 j10) = .ok ((dn ++ partL rest cu q).map lstD, st j9' j10')
  | [], i, dn, cu, j9, j10, _, _, _ => ⟨j9, j10, by
    show nstGo f [] _ _ _ = _
    rw [nst_nil, partL, List.map_append]
    rfl⟩
  | [x], i, dn, cu, j9, j10, hi, h1, h2 => by
    refine ⟨some (.int i), some (.int x), ?_⟩
    rw [List.map_cons, List.map_nil, enumL_cons, nst_more (hf i x j9 j10 (by omega)) (by rw [List.length_map]; omega)]
    show nstGo f [] _ _ _ = _
    rw [nst_nil, partL, List.map_append]
    show R.ok (dn.map lstD ++ [D.lst (cu.map D.int ++ [.int x])], _) = _
    rw [show cu.map D.int ++ [D.int x] = (cu ++ [x]).map D.int by rw [List.map_append]; rfl]
    rfl
  | x :: y :: q, i, dn, cu, j9, j10, hi, h1, h2 => by
    simp only [List.length_cons] at h1 h2
    rw [List.map_cons, List.map_cons, enumL_cons, enumL_cons, nst_more (hf i x j9 j10 (by omega)) (by rw [List.length_map]; omega), partL, show cu.map D.int ++ [D.int x] = (cu ++ [x]).map D.int by rw [List.map_append]; rfl]
    by_cases c : rest ≤ y
    · rw [if_pos c, nst_new (ht (i + 1) y _ _ ⟨by omega, c⟩) (by rw [List.length_map]; omega), show dn.map lstD ++ [D.lst ((cu ++ [x]).map D.int)] = (dn ++ [cu ++ [x]]).map lstD from (List.map_append (f := lstD) (l₁ := dn) (l₂ := [cu ++ [x]])).symm]
      obtain ⟨a, b, e⟩ := nst_part st ht hf q (i + 1 + 1) (dn ++ [cu ++ [x]]) [] (some (.int ((i + 1 : Nat) : Int))) (some (.int y)) (by omega) (by rw [List.length_append, List.length_cons, List.length_nil]; omega) (by rw [List.length_nil]; omega)
      refine ⟨a, b, ?_⟩
      rw [List.map_nil] at e
      rw [e, List.append_assoc]
      rfl
    · rw [if_neg c, nst_more (hf (i + 1) y _ _ (fun z => c z.2)) (by rw [List.length_map, List.length_append, List.length_cons, List.length_nil]; omega), show (cu ++ [x]).map D.int ++ [D.int y] = (cu ++ [x, y]).map D.int by simp]
      exact nst_part st ht hf q (i + 1 + 1) dn (cu ++ [x, y]) _ _ (by omega) (by omega) (by rw [List.length_append, List.length_cons, List.length_cons, List.length_nil]; omega)
def gTpl : D → D
  | .lst xs => .tup xs
  | d => d
theorem gTpl_map (l : List (List Int)) : (l.map lstD).map gTpl = l.map rowD := by
  rw [List.map_map]
  rfl
theorem lit_at0 {pre post : List Int} {m : Int} (hp : ∀ x ∈ pre, 0 ≤ x) (hm : 1 ≤ m) : litL 0 (pre ++ m :: post) pre.sum = decide ((pre.length : Int) % 2 = 0) ∧ litL 0 (pre ++ m :: post) (pre.sum + m - 1) = decide ((pre.length : Int) % 2 = 0) := by
  have h1 := lit_app (q := m :: post) pre 0 0 hp (Int.le_refl _)
  have h2 := lit_app (q := m :: post) pre 0 (m - 1) hp (by omega)
  rw [Int.add_zero] at h1
  rw [show pre.sum + (m - 1) = pre.sum + m - 1 by omega] at h2
  rw [h1, h2, Nat.zero_add, litL, litL, if_pos (by omega), if_pos (by omega)]
  exact ⟨rfl, rfl⟩
theorem deqL_self {n : Nat} (ih : ∀ d, shD n d = true → deq d d = true) : ∀ xs : List D, xs.all (shD n) = true → deqL xs xs = true
  | [], _ => deqL_nil
  | x :: r, h => by
    rw [List.all_cons, Bool.and_eq_true] at h
    rw [deqL_cons, ih x h.1, deqL_self ih r h.2]
    rfl
theorem deq_self : ∀ (n : Nat) (d : D), shD n d = true → deq d d = true := by
  have leaf : ∀ (n : Nat) (d : D), shD n d = true → (∀ xs, d ≠ .tup xs) → (∀ xs, d ≠ .lst xs) → deq d d = true := fun n d h h1 h2 => by
    cases d with
    | non => exact deq_nn
    | bl b => rw [deq_bb]; exact decide_eq_true rfl
    | int i => rw [deq_ii]; exact decide_eq_true rfl
    | str s => rw [deq_ss]; exact beq_self_eq_true _
    | ref a => cases n <;> cases h
    | tup xs => exact absurd rfl (h1 xs)
    | lst xs => exact absurd rfl (h2 xs)
  intro n
  induction n with
  | zero =>
    intro d h
    cases d with
    | tup xs => cases h
    | lst xs => cases h
    | _ => exact leaf 0 _ h (fun _ z => nomatch z) (fun _ z => nomatch z)
  | succ n ih =>
    intro d h
    cases d with
    | tup xs =>
      rw [deq_tt]
      exact deqL_self ih xs h
    | lst xs =>
      rw [deq_ll]
      exact deqL_self ih xs h
    | _ => exact leaf (n + 1) _ h (fun _ z => nomatch z) (fun _ z => nomatch z)
theorem ne_self {d : D} (h : shD 9 d = true) : dCmp .NotEq d d = .ok (.bl false) := by rw [ne_ok h h, deq_self 9 d h]; rfl
theorem eq_self' {d : D} (h : shD 9 d = true) : dCmp .Eq d d = .ok (.bl true) := by rw [eq_ok h h, deq_self 9 d h]
theorem sh_prs {n : Nat} : ∀ ps : List (Int × Int), (ps.map pD).all (shD (n + 1)) = true
  | [] => rfl
  | p :: r => by
    rw [List.map_cons, List.all_cons, sh_prs r]
    unfold pD
    rw [sh_tup, List.all_cons, List.all_cons, sh_int, sh_int]
    rfl
theorem sh_said (l : List (List Int)) (f : List Int → List (Int × Int)) : shD 9 (.tup (l.map fun r => D.tup ((f r).map pD))) = true := by
  rw [sh9t]
  refine List.all_eq_true.mpr fun d hd => ?_
  obtain ⟨r, _, rfl⟩ := List.mem_map.mp hd
  rw [sh8t]
  exact sh_prs _
end LC

set_option Elab.async false
set_option linter.all false
set_option maxRecDepth 100000
set_option maxHeartbeats 4000000
/-! LC: defs that raise -/
namespace LC
open PySem PySem.Spec PyProof.Rows L2
def bmVE : List Value := [.type "ValueError", .type "Exception", .type "BaseException", .type "object"]
/-- an exception class of the top -/
def ClsOk (K : PySem.W.Frag) (mg : Str → Option Value) (x : Str) : Prop := ∃ C, mg x = some (.ref C) ∧ PySem.W.keepIn K (.ref C) = true ∧ PySem.W.excIn K C bmVE "ValueError.__new__" = true ∧ PySem.W.subIn K (.ref C) (.type "BaseException") = some true ∧ PySem.W.typeIn K (.ref C) = some (.type "type")
/-- a def's promise where it may raise -/
def spX (K : PySem.W.Frag) (mg : Str → Option Value) (f : List D → R D) (g : List D → Option Str) : Sp := fun vs H Q E => ∃ (O : Addr → Prop) (ds : List D), (∀ b, O b → H b ≠ none) ∧ RpL K O H ds vs ∧
  ((∃ d, f ds = .ok d ∧ ∀ v H', Same H H' → Rp K O H' d v → Q v H') ∨ ∃ c, g ds = some c ∧ ∀ C H', mg c = some (.ref C) → Same H H' → E (.ref C) none H')
def tEX (W : WX) (mg : Str → Option Value) (K : PySem.W.Frag) (M : List Nat) (x : E → Rho → Option Str) (e : E) : TE := fun σ H _ => ∃ O ρ cn, Ok K O M ρ σ H ∧ x e ρ = some cn ∧ ∀ C H', mg cn = some (.ref C) → Same H H' → W (.ref C) none σ H'
def tX (W : WX) (mg : Str → Option Value) (c : Cf) (wf : Nat) (K : PySem.W.Frag) (M : List Nat) (s : S) : TS := fun _ σ H => ∃ O G ρ cn, OkS K O G M ρ σ H ∧ xr c wf s ρ = some cn ∧ ∀ C σ' H', mg cn = some (.ref C) → Same G H' → W (.ref C) none σ' H'
def tXs (W : WX) (mg : Str → Option Value) (c : Cf) (wf : Nat) (K : PySem.W.Frag) (M : List Nat) (ss : List S) : TS := fun _ σ H => ∃ O G ρ cn, OkS K O G M ρ σ H ∧ xrs c wf ss ρ = some cn ∧ ∀ C σ' H', mg cn = some (.ref C) → Same G H' → W (.ref C) none σ' H'
theorem pss_or {X : Cx} {sts : List Stmt} {t t' : TS} (h : PSs X sts t) (h' : PSs X sts t') : PSs X sts (fun Dn σ H => t Dn σ H ∨ t' Dn σ H) := ⟨fun pins s σ H Dn I w => by
  rcases w with w | w
  · exact h.run pins s σ H Dn I w
  · exact h'.run pins s σ H Dn I w⟩
theorem ps_or {X : Cx} {st : Stmt} {t t' : TS} (h : PS X st t) (h' : PS X st t') : PS X st (fun Dn σ H => t Dn σ H ∨ t' Dn σ H) := ⟨fun pins s σ H Dn I w => by
  rcases w with w | w
  · exact h.run pins s σ H Dn I w
  · exact h'.run pins s σ H Dn I w⟩
theorem pe_orX {X : Cx} {e : Expr} {t t' : TE} (h : PE X e t) (h' : PE X e t') : PE X e (fun σ H Q => t σ H Q ∨ t' σ H Q) := ⟨fun pins s σ H Q I w => by
  rcases w with w | w
  · exact h.run pins s σ H Q I w
  · exact h'.run pins s σ H Q I w⟩
structure CokX (p : Pg) (n : Nat) (N : List Str) (sc : Scope) (X : Cx) (xl cl : List Str) (W : WX) : Prop where
  ok : Cok p n N sc X
  tk : Takes X W
  xf : ∀ f ∈ xl, ∃ a fd ps, X.mg f = some (.ref a) ∧ PySem.W.keepIn X.K (.ref a) = true ∧ Binds X.K fd ps [] ∧ FnOk X.prog X.w X.K X.mg X.base (L2.CX X.prog X.w) n a fd ps (spX X.K X.mg (run p n f) (runX p n f))
  cs : ∀ x ∈ cl, ClsOk X.K X.mg x
theorem xcl_call {c : Cf} {f : Str} {es : List E} {ρ : Rho} : xcl c (.call f es) ρ = match evs c es ρ with
    | .ok ds => c.xc f ds
    | _ => none := rfl
theorem xlc_lc {c : Cf} {own : List Nat} {tg : Tg} {k : Src} {ss : List E} {cond elt : E} {ρ : Rho} : xlc c (.lc own tg k ss cond elt) ρ = match evs c ss ρ with
    | .ok ys => match items k ys with
      | .ok its => lcX (fun d => match bindT tg d (wipeR ρ own) with
        | some ρ' => (ev c elt ρ').bind fun x => .ok (some x)
        | none => .bad) (fun d => match bindT tg d (wipeR ρ own) with
        | some ρ' => xcl c elt ρ'
        | none => none) its
      | _ => none
    | _ => none := rfl
/-- f(..) -/
theorem l_callX {X : Cx} {W : WX} {c : Cf} {M : List Nat} {x : Str} {p pos : Pos} {a : Expr} {as : List Expr} {as' : List E} {k : Nat} {f : Addr} {fd : FuncData} {ps : List Str} (tk : Takes X W) (F : FnOk X.prog X.w X.K X.mg X.base (L2.CX X.prog X.w) k f fd ps (spX X.K X.mg (c.call x) (c.xc x))) (hr : Room k X.A) (hg : Gl X x) (hm : X.mg x = some (.ref f))
    (hk : PySem.W.keepIn X.K (.ref f) = true) (hb : Binds X.K fd ps []) (ha : PA X (a :: as) (tEs c X.K M as')) (hdb : (x == ("__debug__" : Str)) = false)
    (hs : starEach (a :: as) X.env = (false, eval a X.env) :: starEach as X.env) (hpl : (backTo pos (starEach as X.env)).any (·.1) = false) : PE X (.Call (.Name x p) (a :: as) [] pos) (tEX W X.mg X.K M (xcl c) (.call x as')) :=
  pe_imp (pe_callS (E := WE W) F hr hg hm hk hb (fun σ => passAt tk σ) ha hdb hs hpl) fun σ H Q ⟨O, ρ, cn, o, ee, q⟩ => by
  rw [xcl_call] at ee
  cases e1 : evs c as' ρ with
  | ok ds =>
    rw [e1] at ee
    exact ⟨O, ρ, ds, o, e1, fun vs H1 s1 r1 => ⟨Av O M σ, ds, (o.ext s1).dom, r1, .inr ⟨cn, ee, fun C H' hC s2 => q C H' hC (s1.trans s2)⟩⟩⟩
  | exc x => rw [e1] at ee; exact nomatch ee
  | bad => rw [e1] at ee; exact nomatch ee
def isCall : E → Bool
  | .call _ _ => true
  | _ => false
theorem xcl_none {c : Cf} {e : E} {ρ : Rho} (h : isCall e = false) : xcl c e ρ = none := by
  cases e <;> first
    | rfl
    | exact nomatch h
theorem lcX_none {f : D → R (Option D)} {g : D → Option Str} (h : ∀ d, g d = none) : ∀ its, lcX f g its = none
  | [] => rfl
  | d :: r => by
    rw [lcX, h]
    dsimp only
    split
    · exact lcX_none h r
    · rfl
/-- an element that cannot raise -/
def calmLc : E → Bool
  | .lc _ _ _ _ _ elt => !isCall elt
  | _ => true
theorem xlc_none {c : Cf} {e : E} {ρ : Rho} (h : calmLc e = true) : xlc c e ρ = none := by
  cases e with
  | lc own tg k ss cond elt =>
    rw [xlc_lc]
    cases evs c ss ρ with
    | ok ys =>
      dsimp only
      cases items k ys with
      | ok its =>
        refine lcX_none (fun d => ?_) _
        split
        · exact xcl_none (by simpa [calmLc] using h)
        · rfl
      | _ => rfl
    | _ => rfl
  | _ => rfl
def chkXC (p : Pg) (N : List Str) (M : List Nat) (xl : List Str) (sc : Scope) (f : Str) (es' : List E) : Expr → Bool
  | .Call (.Name x _) (a :: as) [] _ => xl.contains f && x == f && isGl sc x && nmOk x && chkEs p N M true sc es' (a :: as)
  | _ => false
def chkXE (p : Pg) (N : List Str) (M : List Nat) (xl : List Str) (sc : Scope) : E → Expr → Bool
  | .call f es', e => chkXC p N M xl sc f es' e
  | .lc own tg k ss cond elt, e => !isCall elt
  | .bi .tuple [e'], e => calmLc e'
  | _, _ => true
mutual
def chkX (p : Pg) (N : List Str) (xl cl : List Str) (sc : Scope) : List Nat → S → Stmt → Bool
  | M, .rse x, st => match st with
    | .Raise (some (.Call (.Name y _) [.Constant (.str _) _ _] [] _)) none _ => y == x && isGl sc y && nmOk y && cl.contains y
    | _ => false
  | M, .ife t a b, st => match st with
    | .If e as bs _ => chkT p N M sc t e && chkXs p N xl cl sc M a as && chkXs p N xl cl sc M b bs
    | _ => false
  | M, .set i e', st => match st with
    | .Assign [.Name x px] e _ => N[i]? == some x && isLoc sc x && (swp sc x px e).isNone && chkXE p N M xl sc e' e
    | _ => false
  | M, .ret e', st => match st with
    | .Return (some e) _ => chkXE p N M xl sc e' e
    | _ => false
  | _, _, _ => true
def chkXs (p : Pg) (N : List Str) (xl cl : List Str) (sc : Scope) : List Nat → List S → List Stmt → Bool
  | _, [], _ => true
  | M, s :: ss, sts => match sts with
    | st :: sts => chkX p N xl cl sc M s st && (match chkS p N sc M s st with
      | some M1 => chkXs p N xl cl sc M1 ss sts
      | none => false)
    | [] => false
end
section
variable {p : Pg} {n : Nat} {N : List Str} {xl cl : List Str} {W : WX}
theorem no_xev {X : Cx} {c : Cf} {M : List Nat} {e : Expr} {e' : E} (h : ∀ ρ, xev c e' ρ = none) : PE X e (tEX W X.mg X.K M (xev c) e') := ⟨fun pins s σ H Q I ⟨O, ρ, cn, o, ee, q⟩ => by
  rw [h] at ee
  exact nomatch ee⟩
theorem chkXC_ok {sc : Scope} {X : Cx} (h : CokX p n N sc X xl cl W) {M : List Nat} {e : Expr} {f : Str} {es' : List E} (hc : chkXC p N M xl sc f es' e = true) : PE X e (tEX W X.mg X.K M (xcl (cfOf p n)) (.call f es')) := by
  unfold chkXC at hc
  split at hc
  · simp only [Bool.and_eq_true] at hc
    obtain ⟨⟨⟨⟨h0, h1⟩, h2⟩, h3⟩, h5⟩ := hc
    have hf := eq_of_beq h1
    subst hf
    obtain ⟨n1, _, _⟩ := nm_of h3
    obtain ⟨a, fd, ps, g1, g2, g3, g4⟩ := h.xf _ (List.contains_iff_mem.mp h0)
    have hp : PA X _ (tEs (cfOf p n) X.K M es') := chkEs_ok es' true sc X _ h.ok h5
    cases es' with
    | nil => exact nomatch h5
    | cons s r => exact l_callX h.tk g4 h.ok.room (h.ok.gl h2) g1 g2 g3 hp n1 (chkEs_star h5) (back_of (stars (chkEs_tail h5)))
  · exact nomatch hc
theorem xev_none {c : Cf} {e' : E} (h : isCall e' = false) (h2 : ∀ own tg k ss cond elt, e' ≠ .lc own tg k ss cond elt) (h3 : ∀ e, e' ≠ .bi .tuple [e]) (ρ : Rho) : xev c e' ρ = none := by
  unfold xev
  split
  · exact nomatch h
  · exact absurd rfl (h2 _ _ _ _ _ _)
  · exact absurd rfl (h3 _)
  · rfl
theorem chkXE_ok {sc : Scope} {X : Cx} (h : CokX p n N sc X xl cl W) {M : List Nat} {e : Expr} : ∀ (e' : E), chkXE p N M xl sc e' e = true → PE X e (tEX W X.mg X.K M (xev (cfOf p n)) e') := fun e' hc => by
  unfold chkXE at hc
  split at hc
  · exact pe_imp (chkXC_ok h hc) fun σ H Q ⟨O, ρ, cn, o, ee, q⟩ => ⟨O, ρ, cn, o, ee, q⟩
  · rename_i own tg k ss cond elt
    exact no_xev fun ρ => xlc_none (e := .lc own tg k ss cond elt) hc
  · exact no_xev fun ρ => xlc_none hc
  · rename_i g1 g2 g3
    exact no_xev (xev_none (by cases e' <;> first | rfl | exact (g1 _ _ rfl).elim) g2 g3)
mutual
theorem chkX_ok {sc : Scope} {X : Cx} (h : CokX p n N sc X xl cl W) (hk : sc.kind = .function) (hf : ∀ x, X.fn x = true) (hp : PassesOwn (model X.prog X.w) X.A X.env X.xe) :
    ∀ (s : S) (M : List Nat) (st : Stmt), chkX p N xl cl sc M s st = true → PS X st (tX W X.mg (cfOf p n) p.wf X.K M s)
  | .rse x, M, st, hc => by
    unfold chkX at hc
    split at hc
    · simp only [Bool.and_eq_true] at hc
      obtain ⟨⟨⟨h1, h2⟩, h3⟩, h4⟩ := hc
      have he := eq_of_beq h1
      subst he
      obtain ⟨n1, _, _⟩ := nm_of h3
      obtain ⟨C, c1, c2, c3, c4, c5⟩ := h.cs _ (List.contains_iff_mem.mp h4)
      exact ps_imp (ps_raise h.ok.calm h.tk (pmk_own PySem.F.excBase_ValueError c3 c1 c2 (raises_own c4 c5) (h.ok.gl h2) n1)) fun Dn σ H ⟨O, G, ρ, cn, o, ee, q⟩ => by
        rw [xr] at ee
        cases ee
        exact q C σ H c1 o.same
    · exact nomatch hc
  | .ife t a b, M, st, hc => by
    unfold chkX at hc
    split at hc
    · simp only [Bool.and_eq_true] at hc
      obtain ⟨⟨h1, h2⟩, h3⟩ := hc
      exact ps_imp (ps_if (chkT_ok h.ok t _ h1) (chkXs_ok h hk hf hp a M _ h2) (chkXs_ok h hk hf hp b M _ h3)) fun Dn σ H ⟨O, G, ρ, cn, o, ee, q⟩ => by
        rw [xr] at ee
        split at ee
        · rename_i d e1
          unfold rTruth at ee
          cases ht : truth d with
          | none => rw [ht] at ee; exact nomatch ee
          | some v =>
            rw [ht] at ee
            refine ⟨O, ρ, d, v, o.ok, e1, ht, fun H1 s1 => ?_⟩
            cases v with
            | true => exact iteT ⟨O, G, ρ, cn, o.ext s1, ee, q⟩
            | false => exact iteF ⟨O, G, ρ, cn, o.ext s1, ee, q⟩
        · exact nomatch ee
    · exact nomatch hc
  | .set i e', M, st, hc => by
    unfold chkX at hc
    split at hc
    · simp only [Bool.and_eq_true] at hc
      obtain ⟨⟨⟨h1, h2⟩, h3⟩, h4⟩ := hc
      have hs := Option.isNone_iff_eq_none.mp h3
      exact ps_imp (ps_set (by rw [h.ok.names]; exact h.ok.nd) (by rw [h.ok.names]; exact eq_of_beq h1) (by rw [h.ok.scope]; exact loc_of h2) (chkXE_ok h e' h4) (sw_none hs) (.inl (hf _))) fun Dn σ H ⟨O, G, ρ, cn, o, ee, q⟩ => by
        rw [xr] at ee
        exact ⟨O, ρ, cn, o.ok, ee, fun C H' hC s' => q C σ H' hC (o.same.trans s')⟩
    · exact nomatch hc
  | .ret e', M, st, hc => by
    unfold chkX at hc
    split at hc
    · exact ps_imp (ps_ret (chkXE_ok h e' hc)) fun Dn σ H ⟨O, G, ρ, cn, o, ee, q⟩ => by
        rw [xr] at ee
        exact ⟨O, ρ, cn, o.ok, ee, fun C H' hC s' => q C σ H' hC (o.same.trans s')⟩
    · exact nomatch hc
  | .own _ _, M, st, hc => ⟨fun pins s σ H Dn I ⟨O, G, ρ, cn, o, ee, q⟩ => by rw [xr] at ee <;> first | exact nomatch ee | (intros; simp)⟩
  | .unp _ _, M, st, hc => ⟨fun pins s σ H Dn I ⟨O, G, ρ, cn, o, ee, q⟩ => by rw [xr] at ee <;> first | exact nomatch ee | (intros; simp)⟩
  | .app _ _, M, st, hc => ⟨fun pins s σ H Dn I ⟨O, G, ρ, cn, o, ee, q⟩ => by rw [xr] at ee <;> first | exact nomatch ee | (intros; simp)⟩
  | .ext _ _, M, st, hc => ⟨fun pins s σ H Dn I ⟨O, G, ρ, cn, o, ee, q⟩ => by rw [xr] at ee <;> first | exact nomatch ee | (intros; simp)⟩
  | .put _ _ _, M, st, hc => ⟨fun pins s σ H Dn I ⟨O, G, ρ, cn, o, ee, q⟩ => by rw [xr] at ee <;> first | exact nomatch ee | (intros; simp)⟩
  | .frz _, M, st, hc => ⟨fun pins s σ H Dn I ⟨O, G, ρ, cn, o, ee, q⟩ => by rw [xr] at ee <;> first | exact nomatch ee | (intros; simp)⟩
  | .for_ _ _ _ _, M, st, hc => ⟨fun pins s σ H Dn I ⟨O, G, ρ, cn, o, ee, q⟩ => by rw [xr] at ee <;> first | exact nomatch ee | (intros; simp)⟩
  | .whl _ _, M, st, hc => ⟨fun pins s σ H Dn I ⟨O, G, ρ, cn, o, ee, q⟩ => by rw [xr] at ee <;> first | exact nomatch ee | (intros; simp)⟩
  | .pas, M, st, hc => ⟨fun pins s σ H Dn I ⟨O, G, ρ, cn, o, ee, q⟩ => by rw [xr] at ee <;> first | exact nomatch ee | (intros; simp)⟩
  | .nst _ _ _ _ _ _, M, st, hc => ⟨fun pins s σ H Dn I ⟨O, G, ρ, cn, o, ee, q⟩ => by rw [xr] at ee <;> first | exact nomatch ee | (intros; simp)⟩
  | .told _ _ _, M, st, hc => ⟨fun pins s σ H Dn I ⟨O, G, ρ, cn, o, ee, q⟩ => by rw [xr] at ee <;> first | exact nomatch ee | (intros; simp)⟩
theorem chkXs_ok {sc : Scope} {X : Cx} (h : CokX p n N sc X xl cl W) (hk : sc.kind = .function) (hf : ∀ x, X.fn x = true) (hp : PassesOwn (model X.prog X.w) X.A X.env X.xe) :
    ∀ (ss : List S) (M : List Nat) (sts : List Stmt), chkXs p N xl cl sc M ss sts = true → PSs X sts (tXs W X.mg (cfOf p n) p.wf X.K M ss)
  | [], M, sts, hc => ⟨fun pins s σ H Dn I ⟨O, G, ρ, cn, o, ee, q⟩ => by
    rw [xrs] at ee
    exact nomatch ee⟩
  | s :: ss, M, sts, hc => by
    unfold chkXs at hc
    split at hc
    · rw [Bool.and_eq_true] at hc
      obtain ⟨h1, h2⟩ := hc
      split at h2
      · rename_i M1 hm
        exact pss_imp (pss_cons (ps_or (chkS_ok h.ok hk hf hp s M M1 _ hm) (chkX_ok h hk hf hp s M _ h1)) (chkXs_ok h hk hf hp ss M1 _ h2)) fun Dn σ H ⟨O, G, ρ, cn, o, ee, q⟩ => by
          rw [xrs] at ee
          split at ee
          · rename_i x e1
            cases ee
            exact .inr ⟨O, G, ρ, _, o, e1, q⟩
          · split at ee
            · rename_i ρ' e2
              exact .inl ⟨O, G, ρ, .nx ρ', o, e2, fun σ' H' o' k' => ⟨O, G, ρ', cn, o', ee, q⟩⟩
            · exact nomatch ee
      · exact nomatch h2
    · exact nomatch hc
end
end
theorem runX_len {p : Pg} {n : Nat} {f : Str} {fn : Fn} {ds : List D} {c : Str} (hf : p.fns.lookup f = some fn) (h : runX p (n + 1) f ds = some c) : ds.length = fn.np ∧ xrs ⟨p.glb, run p n, p.dct, runX p n⟩ p.wf fn.body (startR fn ds) = some c := by
  rw [runX_succ, hf] at h
  dsimp only at h
  by_cases hl : ds.length = fn.np
  · rw [if_pos hl] at h
    exact ⟨hl, h⟩
  · rw [if_neg hl] at h
    exact nomatch h
section
variable {P : Program} {w : World} {K : PySem.W.Frag} {mg : Str → Option Value} {base : Heap} {p : Pg} {xl cl : List Str}
/-- one def that may raise -/
theorem fn_okX {n : Nat} {x qual : Str} {st : Stmt} {f : Addr} {fd : FuncData} {N ps : List Str} {fn : Fn} {M' : List Nat} (F : Fun K x qual st f fd) (S : FnScope N ps (defScope st)) (hfn : p.fns.lookup x = some fn) (hnp : fn.np = ps.length) (hns : fn.ns = N.length)
    (hc : chkSs p N (defScope st) [] fn.body (defBody st) = some M') (hx : chkXs p N xl cl (defScope st) [] fn.body (defBody st) = true) (glb : ∀ x d, p.glb.lookup x = some d → ∃ v u, mg x = some u ∧ RelV v u ∧ ∀ O H, Rp K O H d v) (blt : ∀ x ∈ bltNames, mg x = none)
    (dct : ∀ x kvs, p.dct.lookup x = some kvs → DctOk K w mg x kvs) (rps : ∀ x y, (x, y) ∈ p.rps → RpsOk p mg x y) (cs : ∀ x ∈ cl, ClsOk K mg x)
    (fns : ∀ f fn, p.fns.lookup f = some fn → ∃ a fd ps, mg f = some (.ref a) ∧ PySem.W.keepIn K (.ref a) = true ∧ Binds K fd ps [] ∧ FnOk P w K mg base CX0 n a fd ps (spF K (run p n f)))
    (xf : ∀ f ∈ xl, ∃ a fd ps, mg f = some (.ref a) ∧ PySem.W.keepIn K (.ref a) = true ∧ Binds K fd ps [] ∧ FnOk P w K mg base (L2.CX P w) n a fd ps (spX K mg (run p n f) (runX p n f))) :
    FnOk P w K mg base (L2.CX P w) (n + 1) f fd ps (spX K mg (run p (n + 1) x) (runX p (n + 1) x)) := by
  refine F.okX S (fun vs H Q E hsp => ?_) (fun cdv A outer s H vs Q E hr hsp => ?_)
  · obtain ⟨O, ds, _, r, ⟨d, hrun, _⟩ | ⟨c, hrun, _⟩⟩ := hsp
    · rw [← r.length, (run_len hfn hrun).1, hnp]
    · rw [← r.length, (runX_len hfn hrun).1, hnp]
  · have ck : Cok p n N (defScope st) (cxOf (L2.CX P w) P w K mg base N qual (defScope st) f cdv A outer s H E) := ⟨rfl, S.nd, rfl, rfl, hr, glb, blt, fns, dct, rps⟩
    have tk : Takes (cxOf (L2.CX P w) P w K mg base N qual (defScope st) f cdv A outer s H E) (fun cls d _ H => E cls d H) := takes_of rfl rfl rfl rfl
    have hp : PassesOwn (model P w) (cxOf (L2.CX P w) P w K mg base N qual (defScope st) f cdv A outer s H E).A (cxOf (L2.CX P w) P w K mg base N qual (defScope st) f cdv A outer s H E).env (cxOf (L2.CX P w) P w K mg base N qual (defScope st) f cdv A outer s H E).xe := passes_of (X := cxOf (L2.CX P w) P w K mg base N qual (defScope st) f cdv A outer s H E) rfl
    refine ⟨_, pss_or (chkSs_ok ck S.kind (fun _ => rfl) hp fn.body [] M' (defBody st) hc) (chkXs_ok ⟨ck, tk, xf, cs⟩ S.kind (fun _ => rfl) hp fn.body [] (defBody st) hx), ?_⟩
    obtain ⟨O, ds, hO, r, ⟨d, hrun, q⟩ | ⟨c, hrun, q⟩⟩ := hsp
    · obtain ⟨hl, hfin⟩ := run_len hfn hrun
      left
      cases hx : xss ⟨p.glb, run p n, p.dct, runX p n⟩ p.wf fn.body (startR fn ds) with
      | ok fl =>
        rw [hx] at hfin
        refine ⟨O, H, startR fn ds, fl, ok_start hO r hns, hx, ?_⟩
        cases fl with
        | nx ρ' =>
          cases hfin
          intro σ' H' o' _
          exact q .non H' o'.same rp_non
        | rt d' =>
          cases hfin
          exact fun v H' s' r' => q v H' s' r'
      | exc c =>
        rw [hx] at hfin
        exact nomatch hfin
      | bad =>
        rw [hx] at hfin
        exact nomatch hfin
    · obtain ⟨hl, hfin⟩ := runX_len hfn hrun
      exact .inr ⟨O, H, startR fn ds, c, ok_start hO r hns, hfin, fun C σ' H' hC s' => q C H' hC s'⟩
/-- what the top has left of each def that may raise -/
structure EntX (K : PySem.W.Frag) (mg : Str → Option Value) (p : Pg) (xl cl : List Str) (f : Str) : Prop where
  ex : ∃ (fn : Fn) (st : Stmt) (a : Addr) (fd : FuncData) (ps N : List Str) (M' : List Nat), p.fns.lookup f = some fn ∧ mg f = some (.ref a) ∧ Fun K f f st a fd ∧ FnScope N ps (defScope st) ∧ Binds K fd ps [] ∧ fn.np = ps.length ∧ fn.ns = N.length ∧ chkSs p N (defScope st) [] fn.body (defBody st) = some M' ∧
    chkXs p N xl cl (defScope st) [] fn.body (defBody st) = true
theorem all_okX (ent : ∀ f fn, p.fns.lookup f = some fn → Ent K mg p f fn) (entX : ∀ f ∈ xl, EntX K mg p xl cl f) (glb : ∀ x d, p.glb.lookup x = some d → ∃ v u, mg x = some u ∧ RelV v u ∧ ∀ O H, Rp K O H d v) (blt : ∀ x ∈ bltNames, mg x = none)
    (dct : ∀ x kvs, p.dct.lookup x = some kvs → DctOk K w mg x kvs) (rps : ∀ x y, (x, y) ∈ p.rps → RpsOk p mg x y) (cs : ∀ x ∈ cl, ClsOk K mg x) :
    ∀ (n : Nat) (f : Str), f ∈ xl → ∃ a fd ps, mg f = some (.ref a) ∧ PySem.W.keepIn K (.ref a) = true ∧ Binds K fd ps [] ∧ FnOk P w K mg base (L2.CX P w) n a fd ps (spX K mg (run p n f) (runX p n f))
  | 0, f, hf => by
    obtain ⟨fn, st, a, fd, ps, N, M', h0, h1, h2, h3, h4, h5, h6, h7, h8⟩ := (entX f hf).ex
    have no : ∀ vs H Q E, ¬ spX K mg (run p 0 f) (runX p 0 f) vs H Q E := fun vs H Q E ⟨O, ds, _, _, h⟩ => by
      rcases h with ⟨d, hrun, _⟩ | ⟨c, hrun, _⟩
      · rw [run_zero] at hrun
        exact nomatch hrun
      · have z : (none : Option Str) = some c := hrun
        exact nomatch z
    exact ⟨a, fd, ps, h1, h2.kp, h4, ⟨fun vs H Q E z => absurd z (no vs H Q E), fun A outer s H args us vs Q E _ _ _ _ z => absurd z (no vs H Q E)⟩⟩
  | n + 1, f, hf => by
    obtain ⟨fn, st, a, fd, ps, N, M', h0, h1, h2, h3, h4, h5, h6, h7, h8⟩ := (entX f hf).ex
    exact ⟨a, fd, ps, h1, h2.kp, h4, fn_okX h2 h3 h0 h5 h6 h7 h8 glb blt dct rps cs (all_ok ent glb blt dct rps n) (all_okX ent entX glb blt dct rps cs n)⟩
end
end LC

set_option Elab.async false
set_option linter.all false
set_option maxRecDepth 100000
set_option maxHeartbeats 4000000
/-! LC: _law_told -/
namespace LC
open PySem PySem.Spec PyProof.Rows L2 LamX
section
variable {X : Cx}
def rCntF (K : PySem.W.Frag) : V → List V → Hp → VK → Prop := fun x xs H Q => ∃ (a : Addr) (ys : List V) (y : V), x = V.ref a ∧ xs = [y] ∧ SqL K H a ys ∧ flatV y = true ∧ ys.all flatV = true ∧ Q (.int ((ys.countP fun z => eqV z y : Nat))) H
theorem cnt_eqU {y : V} : ∀ {ys : List V} {us : List Value}, Vals ys us → ys.all flatV = true → us.countP (eqU y) = ys.countP fun z => eqV z y
  | _, _, .nil, _ => rfl
  | _, _, .cons r t, h => by
    rw [List.all_cons, Bool.and_eq_true] at h
    rw [List.countP_cons, List.countP_cons, cnt_eqU t h.2, eqU_of r h.1]
theorem mt_countF : MtR X "list.count" (rCntF X.K) := by
  intro pins s σ H x xs v us Q I rx rxs h
  obtain ⟨a, ys, y, rfl, rfl, hs, fy, fys, q⟩ := h
  cases rx
  obtain ⟨u, rfl, ry⟩ := rxs.one
  obtain ⟨its, rv, ⟨⟨cls, dd, data, sl⟩, n, ho, hc, hdn, hd⟩, hlen⟩ := I.list hs
  simp only at hc hd
  subst hc hd
  refine call_meets PySem.F.slot_list_count ⟨_, ho, rfl⟩ PySem.F.entry_list_count (PySem.F.args_list_count_2 _ _)
    (SeqAt.list_countAt a its.toArray n dd sl u (eqU y)) ⟨ho, fun u' hu' => mem_eqAt ry fy rv fys u' (by simpa using hu'), ?_⟩
  have ec : its.toArray.toList.countP (eqU y) = ys.countP fun z => eqV z y := cnt_eqU rv fys
  refine ⟨.int (ys.countP fun z => eqV z y : Nat), H, I.tok _, ⟨s.toks, ?_⟩, q⟩
  show Value.int ((its.toArray.toList.countP (eqU y) : Nat) : Int) s.toks = _
  rw [ec]
end
/-- what the classes of the top say -/
structure ToldK (K : PySem.W.Frag) (mg : Str → Option Value) (CL CT CR : Addr) : Prop where
  mL : mg "LampError" = some (.ref CL)
  mT : mg "NoText" = some (.ref CT)
  mR : mg "NoRoom" = some (.ref CR)
  mV : mg "ValueError" = none
  mI : mg "isinstance" = none
  cT : ExcC K CT
  cR : ExcC K CR
  xT : PySem.W.exmOne K (.ref CT) (.ref CL) = some true
  xR : PySem.W.exmOne K (.ref CR) (.ref CL) = some true
  kTT : PySem.W.kitOne K (.ref CT) (.ref CT) = some true
  kTR : PySem.W.kitOne K (.ref CT) (.ref CR) = some false
  kRT : PySem.W.kitOne K (.ref CR) (.ref CT) = some false
  kRR : PySem.W.kitOne K (.ref CR) (.ref CR) = some true
  kTV : PySem.W.kitOne K (.ref CT) (.type "ValueError") = some true
  kRV : PySem.W.kitOne K (.ref CR) (.type "ValueError") = some true
def tldN : List Str := ["deed", "found", "e", "kinds"]
/-- the text of _law_told -/
def tldOk (sg : Scope) : List Stmt → Bool
  | [.Try [.Assign [.Name x1 _] (.Tuple [.Constant (.str y1) _ _, .Call (.Name x2 _) [] [] _] _ _) _] [.ExceptHandler (some (.Name x3 _)) (some x4) [
      .Assign [.Name x5 _] (.List [.Call (.Name f1 _) [.Name x6 _, .Name c1 _] [] _, .Call (.Name f2 _) [.Name x7 _, .Name c2 _] [] _] _) _,
      .Assign [.Name x8 _] (.Tuple [.Constant (.str y2) _ _, .UnaryOp .USub (.Constant (.int i1) _ _) _] _ _) _,
      .If (.BoolOp .And [.Call (.Name f3 _) [.Name x9 _, .Name c3 _] [] _, .Compare (.Call (.Attribute (.Name x10 _) m1 ap1) [.Constant (.bool true) _ _] [] cp1) [.Eq] [.Constant (.int i2) _ _] _] _) [
        .Assign [.Name x11 _] (.Tuple [.Constant (.str y3) _ _, .Call (.Attribute (.Name x12 _) m2 ap2) [.Constant (.bool true) _ _] [] cp2] _ _) _] [] _] _] [] [] _, .Return (some (.Name x13 _)) _] =>
    x1 == ("found" : Str) && y1 == ("told" : Str) && x2 == ("deed" : Str) && x3 == ("LampError" : Str) && x4 == ("e" : Str) && x5 == ("kinds" : Str) && f1 == ("isinstance" : Str) && x6 == ("e" : Str) && c1 == ("NoText" : Str) && f2 == ("isinstance" : Str) && x7 == ("e" : Str) && c2 == ("NoRoom" : Str) &&
    x8 == ("found" : Str) && y2 == ("refused" : Str) && f3 == ("isinstance" : Str) && x9 == ("e" : Str) && c3 == ("ValueError" : Str) && x10 == ("kinds" : Str) && m1 == ("count" : Str) && i2 == 1 && x11 == ("found" : Str) && y3 == ("refused" : Str) && x12 == ("kinds" : Str) && m2 == ("index" : Str) && x13 == ("found" : Str) &&
    ap1.endLine == cp1.line && ap2.endLine == cp2.line && isLoc sg "found" && isLoc sg "kinds" && isVis sg "deed" && sg.names.lookup ("e" : Str) == some .local && isGl sg "LampError" && isGl sg "isinstance" && isGl sg "NoText" && isGl sg "NoRoom" && isGl sg "ValueError" && i1 == 1
  | _ => false
/-- what _law_told makes of the deed's reading -/
def TTl (CT CR : Addr) : (XK → Hp → VK → Prop) → Hp → VK → Prop := fun tl H Q =>
  tl (fun cls d H' => d = none ∧ ∃ k : Int, ((cls = .ref CT ∧ k = 0) ∨ (cls = .ref CR ∧ k = 1)) ∧ ∀ H2 p, Same H' H2 → H' p = none → H2 p = some (.tup [.str "refused", .int k]) → Q (.ref p) H2) H
    (fun v H' => 2 ≤ sizeLine ∧ ∀ p, H' p = none → ∃ u, some (some (V.ref p)) = some (some u) ∧ Q u (upd H' p (.tup [.str "told", v])))
theorem vis_loc {sc : Scope} {x : Str} (h : isLoc sc x = true) : Vis sc x := by
  rcases loc_of h with h | h
  · exact .inl h
  · exact .inr (.inl h)
theorem nd4 : tldN.Nodup := by decide
theorem gl_is {sc : Scope} {x : Str} (h : isGl sc x = true) : sc.names.lookup x = some .globalImplicit := eq_of_beq h
theorem len4 {α : Type} : ∀ {l : List α}, l.length = 4 → ∃ a b c d, l = [a, b, c, d]
  | [a, b, c, d], _ => ⟨a, b, c, d, rfl⟩
/-- the suite's reading: D0 the class -/
def tSuite (CT CR a : Addr) (cls : Value) (d : Option Addr) : TS := fun Dn σ H => d = none ∧ ∃ σ0 : L2.St, σ = σ0.set 2 (some (.ref a)) ∧ ∃ k : Int, ((cls = .ref CT ∧ k = 0) ∨ (cls = .ref CR ∧ k = 1)) ∧
  ∀ H2 p l, σ0.length = 4 → Same H H2 → H p = none → H2 p = some (.tup [.str "refused", .int k]) → Dn.nx ((σ.set 3 (some (.ref l))).set 1 (some (.ref p))) H2
abbrev tldCx (X : Cx) (sg : Scope) (g : Addr) (cdg : Value) (s : Shared) (H : Hp) : Cx := (cxOf C8.CX0 X.prog X.w X.K X.mg X.base tldN "_law_told" sg g cdg X.A X.stack s H C8.E0).nox
theorem tld_gives {X : Cx} {sg : Scope} {g : Addr} {cdg : Value} {q : Str} {CL CT CR : Addr} {bg : List Stmt} (T : ToldK X.K X.mg CL CT CR) (h : tldOk sg bg = true) : GivesTo X tldN "_law_told" sg g cdg bg "deed" q (TTl CT CR) := by
  intro f c' s H Q tl act hc hq
  unfold tldOk at h
  split at h
  · simp only [Bool.and_eq_true] at h
    obtain ⟨⟨⟨⟨⟨⟨⟨⟨⟨⟨⟨⟨⟨⟨⟨⟨⟨⟨⟨⟨⟨⟨⟨⟨⟨⟨⟨⟨⟨⟨⟨⟨⟨⟨⟨⟨g1, g2⟩, g3⟩, g4⟩, g5⟩, g6⟩, g7⟩, g8⟩, g9⟩, g10⟩, g11⟩, g12⟩, g13⟩, g14⟩, g15⟩, g16⟩, g17⟩, g18⟩, g19⟩, g20⟩, g21⟩, g22⟩, g23⟩, g24⟩, g25⟩, g26⟩, g27⟩, g28⟩, g29⟩, g30⟩, g31⟩, g32⟩, g33⟩, g34⟩, g35⟩, g36⟩, g37⟩ := h
    have eg37 := eq_of_beq g37
    subst eg37
    have eg1 := eq_of_beq g1
    subst eg1
    have eg2 := eq_of_beq g2
    subst eg2
    have eg3 := eq_of_beq g3
    subst eg3
    have eg4 := eq_of_beq g4
    subst eg4
    have eg5 := eq_of_beq g5
    subst eg5
    have eg6 := eq_of_beq g6
    subst eg6
    have eg7 := eq_of_beq g7
    subst eg7
    have eg8 := eq_of_beq g8
    subst eg8
    have eg9 := eq_of_beq g9
    subst eg9
    have eg10 := eq_of_beq g10
    subst eg10
    have eg11 := eq_of_beq g11
    subst eg11
    have eg12 := eq_of_beq g12
    subst eg12
    have eg13 := eq_of_beq g13
    subst eg13
    have eg14 := eq_of_beq g14
    subst eg14
    have eg15 := eq_of_beq g15
    subst eg15
    have eg16 := eq_of_beq g16
    subst eg16
    have eg17 := eq_of_beq g17
    subst eg17
    have eg18 := eq_of_beq g18
    subst eg18
    have eg19 := eq_of_beq g19
    subst eg19
    have eg21 := eq_of_beq g21
    subst eg21
    have eg22 := eq_of_beq g22
    subst eg22
    have eg23 := eq_of_beq g23
    subst eg23
    have eg24 := eq_of_beq g24
    subst eg24
    have eg25 := eq_of_beq g25
    subst eg25
    have eE : Loc sg "e" := .inl (eq_of_beq g31)
    have visE : Vis sg "e" := .inl (eq_of_beq g31)
    refine ⟨_, pss_cons (ps_try_as (X := tldCx X sg g cdg s H) (x := "LampError") (n := "e") (c := .ref CL) (i := 2)
      (tb := fun W D σ H => ∃ Ech : XK, (∀ cls d σ' H', Ech cls d H' → W cls d σ' H') ∧ σ[0]? = some (some (.ref f)) ∧ H c' = some (CodeO c' q) ∧ tl Ech H (fun v H' => 2 ≤ sizeLine ∧ ∀ p, H' p = none → D.nx (σ.set 1 (some (.ref p))) (upd H' p (.tup [.str "told", v]))))
      (ts := fun a cls d => tSuite CT CR a cls d) rfl rfl nd4 rfl (eq_of_beq g31) ⟨gl_is g32, by decide, .inl T.mL⟩ LamX.takes0 (fun W pn xe tk _ => ?_) (fun a oe cls d pn hz hf => ?_))
      (pss_one (ps_ret (pe_var (i := 1) rfl (vis_loc g28) (by decide) (by decide)))), ?_⟩
    · refine ⟨fun pins s' σ H' D I h' => ?_⟩
      obtain ⟨Ech, hW, h1, h2, h3⟩ := h'
      refine (pss_one (ps_set (i := 1) nd4 rfl (loc_of g28) (pe_tup (pa_cons pe_str (pa_cons (act W pn xe Ech _ _ tk hW) pa_nil))))).run pins s' σ H' D I ?_
      exact ⟨h1, h2, h3⟩
    · refine ⟨fun pins s' σ H' D I h' => ?_⟩
      obtain ⟨hd0, σ0, hσ, k, hk, hq'⟩ := h'
      subst hd0
      subst hσ
      have hl : σ0.length = 4 := by
        have z := I.len
        rw [List.length_set] at z
        exact z
      obtain ⟨a0, a1, a2, a3, hσ⟩ := len4 hl
      subst hσ
      have ei2 := eq_of_beq g20
      subst ei2
      obtain ⟨D0, b1, b2, ec, hC, k1, k2, kV, hb⟩ : ∃ D0 b1 b2, cls = .ref D0 ∧ ExcC X.K D0 ∧ PySem.W.kitOne X.K (.ref D0) (.ref CT) = some b1 ∧ PySem.W.kitOne X.K (.ref D0) (.ref CR) = some b2 ∧ PySem.W.kitOne X.K (.ref D0) (.type "ValueError") = some true ∧ ((b1 = true ∧ b2 = false ∧ k = 0) ∨ (b1 = false ∧ b2 = true ∧ k = 1)) := by
        rcases hk with ⟨e1, e2⟩ | ⟨e1, e2⟩
        · exact ⟨CT, true, false, e1, T.cT, T.kTT, T.kTR, T.kTV, .inl ⟨rfl, rfl, e2⟩⟩
        · exact ⟨CR, false, true, e1, T.cR, T.kRT, T.kRR, T.kRV, .inr ⟨rfl, rfl, e2⟩⟩
      subst ec
      refine (pss_cons (ps_set (i := 3) nd4 rfl (loc_of g29) (pe_lst (pa_cons (pe_callB (call_isE (X := tldCx X sg g cdg s H) hC hz hf) (gl_is g33) T.mI (by decide +kernel) (pa_cons (pe_var (i := 2) rfl visE (by decide) (by decide)) (pa_cons (pe_glob (v := .ref CT) (gl_is g34) T.mT rfl) pa_nil)))
          (pa_cons (pe_callB (call_isE (X := tldCx X sg g cdg s H) hC hz hf) (gl_is g33) T.mI (by decide +kernel) (pa_cons (pe_var (i := 2) rfl visE (by decide) (by decide)) (pa_cons (pe_glob (v := .ref CR) (gl_is g35) T.mR rfl) pa_nil))) pa_nil))))
        (pss_cons (ps_set (i := 1) nd4 rfl (loc_of g28) (pe_tup (pa_cons pe_str (pa_cons (pe_un un_neg pe_int) pa_nil))))
        (pss_one (ps_if (pw_and (pt_truth (pe_callB (call_isE (X := tldCx X sg g cdg s H) hC hz hf) (gl_is g33) T.mI (by decide +kernel) (pa_cons (pe_var (i := 2) rfl visE (by decide) (by decide)) (pa_cons (pe_bltn (v := .ty "ValueError") (u := .type "ValueError") (gl_is g36) T.mV (by decide +kernel) rfl) pa_nil))) (isTrue_plain_of rfl))
            (pw_and1 (pt_cmpR op_eq (pe_bm PySem.F.plainAttrs_list PySem.F.slot_list_count PySem.F.type_list_count mt_countF (pe_var (i := 3) rfl (vis_loc g29) (by decide) (by decide)) (pa_cons pe_bl pa_nil) rfl rfl g26) pe_int rfl))).pt
          (pss_one (ps_set (i := 1) nd4 rfl (loc_of g28) (pe_tup (pa_cons pe_str (pa_cons (pe_bm PySem.F.plainAttrs_list PySem.F.slot_list_index PySem.F.type_list_index mt_index (pe_var (i := 3) rfl (vis_loc g29) (by decide) (by decide)) (pa_cons pe_bl pa_nil) rfl rfl g27) pa_nil))))) pss_nil)))).run pins s' _ H' D I ?_
      refine ⟨.ref a, rfl, .ref CT, .ref CT, b1, rfl, fun u e => e, k1, .ref a, rfl, .ref CR, .ref CR, b2, rfl, fun u e => e, k2, (by show 2 ≤ sizeLine; decide), fun l hl0 => ?_⟩
      refine ⟨_, rfl, (by show 2 ≤ sizeLine; decide), fun p1 hp1 => ?_⟩
      have hl1 : upd (upd H' l (.lst [.bl b1, .bl b2])) p1 (.tup [.str "refused", .int (-1)]) l = some (.lst [.bl b1, .bl b2]) := by
        rw [upd_ne (fun z => by rw [← z, upd_same] at hp1; exact nomatch hp1), upd_same]
      refine ⟨.ref a, rfl, .ty "ValueError", .type "ValueError", true, rfl, fun u e => e, kV, true, rfl, iteT ?_⟩
      refine ⟨.ref l, rfl, .inl ⟨rfl, _, .inl (.inl hl1)⟩, l, _, .bl true, rfl, rfl, .inl (.inl hl1), rfl, rfl, rfl, _, rfl, ?_⟩
      have fin : ∀ (j : Nat), k = j → ∀ p, upd (upd H' l (.lst [.bl b1, .bl b2])) p1 (.tup [.str "refused", .int (-1)]) p = none → D.nx ([a0, some (.ref p), some (.ref a), some (.ref l)]) (upd (upd (upd H' l (.lst [.bl b1, .bl b2])) p1 (.tup [.str "refused", .int (-1)])) p (.tup [.str "refused", .int (j : Nat)])) := fun j hj p hp => by
        subst hj
        have s3 : Same H' (upd (upd (upd H' l (.lst [.bl b1, .bl b2])) p1 (.tup [.str "refused", .int (-1)])) p (.tup [.str "refused", .int (j : Nat)])) := ((same_new hl0).trans (same_new hp1)).trans (same_new hp)
        exact hq' _ p l hl s3 (Same.free ((same_new hl0).trans (same_new hp1)) hp) upd_same
      rcases hb with ⟨e1, e2, e3⟩ | ⟨e1, e2, e3⟩
      · subst e1 e2
        refine ite2 (fun _ => ?_) (fun z => absurd (by decide) z)
        refine ⟨.ref l, rfl, .inl ⟨rfl, _, .inl (.inl hl1)⟩, l, _, .bl true, 0, .bl true, rfl, rfl, .inl (.inl hl1), rfl, rfl, rfl, rfl, fun m z hm => by omega, (by show 2 ≤ sizeLine; decide), fun p hp => fin 0 e3 p hp⟩
      · subst e1 e2
        refine ite2 (fun _ => ?_) (fun z => absurd (by decide) z)
        refine ⟨.ref l, rfl, .inl ⟨rfl, _, .inl (.inl hl1)⟩, l, _, .bl true, 1, .bl true, rfl, rfl, .inl (.inl hl1), rfl, rfl, rfl, rfl, fun m z hm hz => ?_, (by show 2 ≤ sizeLine; decide), fun p hp => fin 1 e3 p hp⟩
        have hm0 : m = 0 := by omega
        subst hm0
        cases hz
        rfl
    · refine ⟨_, fun cls d σ' H' hh => ?_, rfl, hc, hq⟩
      obtain ⟨hd0, k, hk, hQ⟩ := hh
      refine ⟨true, ?_, fun _ a na => ⟨hd0, σ', rfl, k, hk, fun H2 p l hl s2 hp h2 => ?_⟩, fun z => nomatch z⟩
      · rcases hk with ⟨e1, _⟩ | ⟨e1, _⟩
        · rw [e1]; exact T.xT
        · rw [e1]; exact T.xR
      · obtain ⟨a0, a1, a2, a3, hσ⟩ := len4 hl
        subst hσ
        exact ⟨.ref p, rfl, hQ H2 p s2 hp h2⟩
  · exact nomatch h
end LC

set_option Elab.async false
set_option linter.all false
set_option maxRecDepth 100000
set_option maxHeartbeats 4000000
/-! LC: a law that has deeds told -/
namespace LC
open PySem PySem.Spec PyProof.Rows L2 LamX
def NO : Addr → Prop := fun _ => False
theorem av_no {σ : L2.St} : Av NO [] σ = NO := by
  funext b
  apply propext
  constructor
  · rintro (z | ⟨i, hi, _⟩)
    · exact z
    · exact nomatch hi
  · exact .inl
def FinL (K : PySem.W.Frag) (T : List (Addr × Str)) (H : Hp) (Dn : Ends) : Fl → Prop
  | .nx ρ' => ∀ σ' H', Ok K NO [] ρ' σ' H' → Tabs T H' → Keep NO NO H H' → Dn.nx σ' H'
  | .rt d => ∀ v H', Rp K NO H' d v → Dn.rt v H'
def tL1 (T : List (Addr × Str)) (c : Cf) (wf : Nat) (K : PySem.W.Frag) (s : S) : TS := fun Dn σ H => ∃ ρ f, Ok K NO [] ρ σ H ∧ Tabs T H ∧ xs c wf s ρ = .ok f ∧ FinL K T H Dn f
def tL (T : List (Addr × Str)) (c : Cf) (wf : Nat) (K : PySem.W.Frag) (ss : List S) : TS := fun Dn σ H => ∃ ρ f, Ok K NO [] ρ σ H ∧ Tabs T H ∧ xss c wf ss ρ = .ok f ∧ FinL K T H Dn f
section
variable {X : Cx} {T : List (Addr × Str)} {c : Cf} {wf : Nat} {st : Stmt} {sts : List Stmt}
theorem lw_nil : PSs X [] (tL T c wf X.K []) := pss_imp pss_nil fun Dn σ H ⟨ρ, f, o, tb, e, q⟩ => by
  rw [xss] at e
  cases e
  exact q σ H o tb Keep.refl
theorem lw_cons {s : S} {ss : List S} (h1 : PS X st (tL1 T c wf X.K s)) (h2 : PSs X sts (tL T c wf X.K ss)) : PSs X (st :: sts) (tL T c wf X.K (s :: ss)) := pss_imp (pss_cons h1 h2) fun Dn σ H ⟨ρ, f, o, tb, e, q⟩ => by
  rw [xss] at e
  obtain ⟨z, e1, e⟩ := bind_ok e
  refine ⟨ρ, z, o, tb, e1, ?_⟩
  cases z with
  | nx ρ' =>
    intro σ' H' o' tb' k'
    refine ⟨ρ', f, o', tb', e, ?_⟩
    cases f with
    | nx ρ2 => exact fun σ2 H2 o2 tb2 k2 => q σ2 H2 o2 tb2 (k'.trans k2)
    | rt d => exact q
  | rt d =>
    cases e
    exact q
theorem lw_one {s : S} {M1 : List Nat} (h : PS X st (tS c wf X.K [] M1 s)) : PS X st (tL1 T c wf X.K s) := ps_imp h fun Dn σ H ⟨ρ, f, o, tb, e, q⟩ => by
  refine ⟨NO, H, ρ, f, ⟨o, Same.refl H, fun i hi => nomatch hi⟩, e, ?_⟩
  cases f with
  | nx ρ' => exact fun σ' H' o' _ => q σ' H' (o'.ok.drop (M' := []) fun i hi => nomatch hi) (tb.ext o'.same) (keep_same o'.same)
  | rt d => exact fun v H' _ r' => q v H' r'
theorem keep_extN {H H' : Hp} (e : ExtN H H') : Keep NO NO H H' := ⟨fun b o h n => e b o h n.2, fun _ _ z => z⟩
theorem ok_keep {K : PySem.W.Frag} {ρ : Rho} {σ : L2.St} {H H' : Hp} (o : Ok K NO [] ρ σ H) (k : Keep NO NO H H') : Ok K NO [] ρ σ H' :=
  o.change (by rw [av_no]; exact k) (fun b hb => hb.elim) (fun j hj => nomatch hj)
/-- for, its body with deeds -/
theorem lw_for {tg iter : Expr} {body : List Stmt} {tg' : Tg} {k : Src} {ss : List E} {body' : List S} {pos : Pos} (hp : PassesOwn (model X.prog X.w) X.A X.env X.xe) (hc : X.calm = true) (hi : PI X tg iter (tI true c X.K [] k ss)) (hg : PG X tg (tG X.K [] tg'))
    (hb : PSs X body (tL T c wf X.K body')) (hs : ∀ x, foldedSetIterable iter X.env x = pure x) : PS X (.For tg iter body [] pos) (tL1 T c wf X.K (.for_ tg' k ss body')) :=
  ps_imp (ps_for hp hc hi hg hb hs) fun Dn σ H ⟨ρ, f, o, tb, ee, q⟩ => by
  rw [xs] at ee
  obtain ⟨ds, e1, ee⟩ := bind_ok ee
  obtain ⟨its, e2, ee⟩ := bind_ok ee
  have ee' : forGo (forF c wf tg' body') its ρ = .ok f := ee
  clear ee
  refine ⟨NO, ρ, ds, its, o, e1, e2, fun J H1 s1 wk => ?_⟩
  rw [av_no] at wk
  refine ⟨fun i m σ2 H2 => m = its.length - i ∧ i ≤ its.length ∧ ∃ ρ2, Ok X.K NO [] ρ2 σ2 H2 ∧ Tabs T H2 ∧ Keep NO NO H1 H2 ∧ forGo (forF c wf tg' body') (its.drop i) ρ2 = .ok f,
    ⟨its.length, rfl, Nat.zero_le _, ρ, o.ext s1, tb.ext s1, Keep.refl, ee'⟩, ?_⟩
  rintro i m σ2 H2 ⟨rfl, hi, ρ2, o2, tb2, k2, eg⟩
  by_cases hlt : i < its.length
  · have hd := List.getElem?_eq_getElem hlt
    refine .inr ⟨wk.go _ H2 i k2 hlt, fun σ3 H3 => ∃ ρ3, Ok X.K NO [] ρ3 σ3 H3 ∧ Tabs T H3 ∧ Keep NO NO H1 H3 ∧ forGo (forF c wf tg' body') (its.drop (i + 1)) ρ3 = .ok f,
      fun σ3 H3 hN => ⟨its.length - (i + 1), by omega, rfl, hlt, hN⟩, fun x H3 hy => ?_⟩
    have dom : ∀ b, NO b → H2 b ≠ none := fun b hb => hb.elim
    obtain ⟨s3, rx⟩ := wk.yld _ H2 i x H3 _ k2 dom hd hy
    rw [List.drop_eq_getElem_cons hlt, forGo] at eg
    obtain ⟨z, f1, eg⟩ := bind_ok eg
    unfold forF at f1
    split at f1
    · rename_i ρ' hbn
      have o3 := o2.ext s3
      refine ⟨NO, ρ2, its[i], ρ', o3, by rw [av_no]; exact rx, hbn, fun σ' o' av' w' => ?_⟩
      refine ⟨ρ', z, o', tb2.ext s3, f1, ?_⟩
      have k3 : Keep NO NO H1 H3 := k2.trans (keep_same s3)
      cases z with
      | nx ρ4 => exact fun σ4 H4 o4 tb4 k4 => ⟨ρ4, o4, tb4, k3.trans k4, eg⟩
      | rt d =>
        cases eg
        exact q
    · exact nomatch f1
  · have ei : i = its.length := by omega
    subst ei
    refine .inl ⟨wk.stop _ H2 k2, ?_⟩
    rw [List.drop_length, forGo] at eg
    cases eg
    exact q _ H2 o2 tb2 ((keep_same s1).trans k2)
end
/-- the deed's reading -/
def tDeed (mg : Str → Option Value) (c : Cf) (K : PySem.W.Frag) (f : Str) (es : List E) (E : XK) : TE := fun σ H Q => ∃ ρ ds, Ok K NO [] ρ σ H ∧ evs c es ρ = .ok ds ∧
  ((∃ d, c.call f ds = .ok d ∧ ∀ v H', Same H H' → Rp K NO H' d v → Q v H') ∨ ∃ cn, c.xc f ds = some cn ∧ ∀ C H', mg cn = some (.ref C) → Same H H' → E (.ref C) none H')
theorem lw_told {X : Cx} {P : Addr} {q : Str} {c : Cf} {wf : Nat} {st : Stmt} {i : Nat} {f : Str} {es : List E} {CL CT CR : Addr} (T : ToldK X.K X.mg CL CT CR)
    (h : PS X st (tAsg (tLam [(P, q)] (TTl CT CR) (tDeed X.mg c X.K f es)) (gName i))) : PS X st (tL1 [(P, q)] c wf X.K (.told i f es)) := ps_imp h fun Dn σ H ⟨ρ, fl, o, tb, e, qq⟩ => by
  rw [xs] at e
  obtain ⟨ds, e1, e⟩ := bind_ok e
  obtain ⟨d, e2, e⟩ := bind_ok e
  cases e
  refine ⟨tb, fun H1 x1 tb1 => ?_⟩
  have k1 : Keep NO NO H H1 := keep_extN x1
  have o1 := ok_keep o k1
  have dom : ∀ (H' : Hp) b, NO b → H' b ≠ none := fun H' b hb => hb.elim
  refine ⟨ρ, ds, o1, e1, ?_⟩
  cases hcall : c.call f ds with
  | ok d0 =>
    rw [hcall] at e2
    have e3 : D.tup [.str "told", d0] = d := R.ok_inj e2
    subst e3
    refine .inl ⟨d0, rfl, fun v H2 s2 r2 => ⟨by decide, fun p hp => ⟨.ref p, rfl, ?_⟩⟩⟩
    have s3 := s2.trans (same_new (o := .tup [.str "told", v]) hp)
    exact qq _ _ ((o1.ext s3).set (fun z => nomatch z) (by rw [av_no]; exact new_tup hp (dom H2) (RpL.cons rp_str (RpL.cons r2 RpL.nil)))) (tb1.ext s3) (k1.trans (keep_same s3))
  | _ =>
    rw [hcall] at e2
    cases hxc : c.xc f ds with
    | none =>
      rw [hxc] at e2
      exact nomatch e2
    | some cn =>
      rw [hxc] at e2
      refine .inr ⟨cn, rfl, fun C H2 hC s2 => ⟨rfl, ?_⟩⟩
      have fin : ∀ k : Int, d = .tup [.str "refused", .int k] → ∀ H3 p, Same H2 H3 → H2 p = none → H3 p = some (.tup [.str "refused", .int k]) → Dn.nx (σ.set i (some (.ref p))) H3 := fun k hd H3 p s3 hp h3 => by
        subst hd
        have s4 := s2.trans s3
        exact qq _ _ ((o1.ext s4).set (fun z => nomatch z) (by rw [av_no]; exact rp_tup h3 (fun z => z) (RpL.cons rp_str (RpL.cons rp_int RpL.nil)))) (tb1.ext s4) (k1.trans (keep_same s4))
      unfold tldR at e2
      dsimp only at e2
      split at e2
      · rename_i hn
        subst hn
        have e3 := R.ok_inj e2
        have hT := T.mT
        rw [hC] at hT
        cases hT
        exact ⟨0, .inl ⟨rfl, rfl⟩, fin 0 e3.symm⟩
      · split at e2
        · rename_i hn
          subst hn
          have e3 := R.ok_inj e2
          have hT := T.mR
          rw [hC] at hT
          cases hT
          exact ⟨1, .inr ⟨rfl, rfl⟩, fin 1 e3.symm⟩
        · exact nomatch e2
/-- what the top has left of _law_told -/
structure ToldF (K : PySem.W.Frag) (mg : Str → Option Value) : Prop where
  ex : ∃ (g : Addr) (pg : Arguments) (bg : List Stmt) (sg : Scope) (dV kV doc pm cdv ct oc : Value) (an od : Option Addr) (osl : Array (Option Value)), mg "_law_told" = some (.ref g) ∧ PySem.W.keepIn K (.ref g) = true ∧
    K.lookup g = some ⟨oc, od, .func (PySem.W.fnOf "_law_told" "_law_told" pg bg sg dV kV doc pm an cdv ct), osl⟩ ∧ PySem.W.codeIn K cdv "_law_told" = true ∧ Binds K (PySem.W.fnOf "_law_told" "_law_told" pg bg sg dV kV doc pm an cdv ct) ["deed"] [] ∧ FnScope tldN ["deed"] sg ∧ tldOk sg bg = true ∧ isVis sg "deed" = true
def tldChk (p : Pg) (N : List Str) (sc : Scope) (xl : List Str) (i : Nat) (f : Str) (es : List E) : Stmt → Bool
  | .Assign [.Name x _] (.Call (.Name g _) [.Lambda ⟨[], [], none, [], [], none, []⟩ (.Call (.Name y _) (a :: as) [] _) scope _] [] _) _ =>
    N[i]? == some x && isLoc sc x && g == ("_law_told" : Str) && isGl sc g && xl.contains f && y == f && isGl scope y && nmOk y && chkEs p N [] true scope es (a :: as) && lamSB sc scope
  | _ => false
section
variable {p : Pg} {n : Nat} {N : List Str} {xl : List Str}
theorem told_ok {sc : Scope} {X : Cx} (h : Cok p n N sc X) (hf : ∀ x, X.fn x = true) {P c0 : Addr} {CL CT CR : Addr} (T : ToldK X.K X.mg CL CT CR) (F : ToldF X.K X.mg) (TB : TabB X.base X.mg c0 P) (hcode : X.env.code = .ref c0) (hr : Room (n + 2) X.A)
    (xf : ∀ f ∈ xl, ∃ a fd ps, X.mg f = some (.ref a) ∧ PySem.W.keepIn X.K (.ref a) = true ∧ Binds X.K fd ps [] ∧ FnOk X.prog X.w X.K X.mg X.base (L2.CX X.prog X.w) n a fd ps (spX X.K X.mg (run p n f) (runX p n f)))
    {i : Nat} {f : Str} {es : List E} {st : Stmt} (hc : tldChk p N sc xl i f es st = true) : PS X st (tL1 [(P, X.env.qual ++ "<lambda>")] (cfOf p n) p.wf X.K (.told i f es)) := by
  unfold tldChk at hc
  split at hc
  · simp only [Bool.and_eq_true] at hc
    obtain ⟨⟨⟨⟨⟨⟨⟨⟨⟨h1, h2⟩, h3⟩, h4⟩, h5⟩, h6⟩, h7⟩, h8⟩, h9⟩, h10⟩ := hc
    have e3 := eq_of_beq h3
    have e6 := eq_of_beq h6
    subst e3 e6
    obtain ⟨n1, _, _⟩ := nm_of h8
    obtain ⟨g, pg, bg, sg, dV, kV, doc, pm, cdv, ct, oc, an, od, osl, t1, t2, t3, t4, t5, t6, t7, t8⟩ := F.ex
    obtain ⟨a, fd, ps, g1, g2, g3, g4⟩ := xf _ (List.contains_iff_mem.mp h5)
    refine lw_told T (ps_set (by rw [h.names]; exact h.nd) (by rw [h.names]; exact eq_of_beq h1) (by rw [h.scope]; exact loc_of h2) (pe_lamcall (k := n) (T := [(P, X.env.qual ++ "<lambda>")]) (Ng := tldN) (a := "deed") (h.gl h4) t1 t2 t3 t4 t5 t6 rfl (vis_of t8) (tld_gives T t7) TB hcode List.mem_cons_self (fun q hq _ => ?_) hr (lamS_by (by rw [h.scope]; exact h10)) rfl (fun _ _ _ _ _ => rfl) (fun A outer s H E f' c' hr' => ?_)) rfl (.inl (hf _)))
    · rcases List.mem_cons.mp hq with z | z
      · rw [z]
      · exact nomatch z
    · rename_i scope _ _ _ _ _
      have ck : Cok p n N _ (lamCx X A outer s H E scope f' c') := ⟨h.names, h.nd, rfl, rfl, hr', h.glb, h.blt, h.fns, h.dct, h.rps⟩
      have tk : Takes (lamCx X A outer s H E scope f' c') (fun cls d _ H => E cls d H) := takes_of rfl rfl rfl rfl
      have hp : PA (lamCx X A outer s H E scope f' c') _ (tEs (cfOf p n) X.K [] es) := chkEs_ok es true _ _ _ ck h9
      cases es with
      | nil => exact nomatch h9
      | cons s' r =>
        refine pe_imp (pe_callS (E := fun _ => E) g4 hr' (ck.gl h7) g1 g2 g3 (fun σ => passAt tk σ) hp n1 (chkEs_star h9) (back_of (stars (chkEs_tail h9)))) fun σ H' Q ⟨ρ, ds, o, e1, hh⟩ => ?_
        refine ⟨NO, ρ, ds, o, e1, fun vs H1 s1 r1 => ?_⟩
        rw [av_no] at r1
        refine ⟨NO, ds, fun b hb => hb.elim, r1, ?_⟩
        rcases hh with ⟨d, hd, q⟩ | ⟨cn, hd, q⟩
        · exact .inl ⟨d, hd, fun v H2 s2 r2 => q v H2 (s1.trans s2) r2⟩
        · exact .inr ⟨cn, hd, fun C H2 hC s2 => q C H2 hC (s1.trans s2)⟩
  · exact nomatch hc
end
end LC

set_option Elab.async false
set_option linter.all false
set_option maxRecDepth 100000
set_option maxHeartbeats 4000000
/-! LC: the law itself, and its end -/
namespace LC
open PySem PySem.Spec PyProof.Rows L2 LamX
def isTold : S → Bool
  | .told _ _ _ => true
  | _ => false
def chkL0 (p : Pg) (N : List Str) (sc : Scope) (xl : List Str) : S → Stmt → Bool
  | .told i f es, st => tldChk p N sc xl i f es st
  | s, st => (chkS p N sc [] s st).isSome
def chkL0s (p : Pg) (N : List Str) (sc : Scope) (xl : List Str) : List S → List Stmt → Bool
  | [], sts => sts.isEmpty
  | s :: ss, sts => match sts with
    | st :: sts => chkL0 p N sc xl s st && chkL0s p N sc xl ss sts
    | [] => false
def forL (p : Pg) (N : List Str) (sc : Scope) (xl : List Str) (tg' : Tg) (k : Src) (es : List E) (body' : List S) : Stmt → Bool
  | .For tg iter body [] _ => forOk p N sc [] tg tg' iter k es && chkL0s p N sc xl body' body
  | _ => false
def chkL1 (p : Pg) (N : List Str) (sc : Scope) (xl : List Str) : S → Stmt → Bool
  | .for_ tg' k es body', st => if body'.any isTold then forL p N sc xl tg' k es body' st else (chkS p N sc [] (.for_ tg' k es body') st).isSome
  | s, st => chkL0 p N sc xl s st
def chkLs (p : Pg) (N : List Str) (sc : Scope) (xl : List Str) : List S → List Stmt → Bool
  | [], sts => sts.isEmpty
  | s :: ss, sts => match sts with
    | st :: sts => chkL1 p N sc xl s st && chkLs p N sc xl ss sts
    | [] => false
section
variable {p : Pg} {n : Nat} {N : List Str} {xl : List Str} {sc : Scope} {X : Cx}
structure CokL (p : Pg) (n : Nat) (N : List Str) (sc : Scope) (xl : List Str) (X : Cx) (P : Addr) : Prop where
  ok : Cok p n N sc X
  kd : sc.kind = .function
  fn : ∀ x, X.fn x = true
  pass : PassesOwn (model X.prog X.w) X.A X.env X.xe
  kt : ∃ CL CT CR, ToldK X.K X.mg CL CT CR
  ft : ToldF X.K X.mg
  tb : ∃ c0, TabB X.base X.mg c0 P ∧ X.env.code = .ref c0
  room : Room (n + 2) X.A
  xf : ∀ f ∈ xl, ∃ a fd ps, X.mg f = some (.ref a) ∧ PySem.W.keepIn X.K (.ref a) = true ∧ Binds X.K fd ps [] ∧ FnOk X.prog X.w X.K X.mg X.base (L2.CX X.prog X.w) n a fd ps (spX X.K X.mg (run p n f) (runX p n f))
variable {P : Addr}
theorem plainL (h : CokL p n N sc xl X P) {T : List (Addr × Str)} {s : S} {st : Stmt} (hc : (chkS p N sc [] s st).isSome = true) : PS X st (tL1 T (cfOf p n) p.wf X.K s) := by
  obtain ⟨M1, hm⟩ := Option.isSome_iff_exists.mp hc
  exact lw_one (chkS_ok h.ok h.kd h.fn h.pass s [] M1 st hm)
theorem chkL0_ok (h : CokL p n N sc xl X P) (s : S) (st : Stmt) (hc : chkL0 p N sc xl s st = true) : PS X st (tL1 [(P, X.env.qual ++ "<lambda>")] (cfOf p n) p.wf X.K s) := by
  unfold chkL0 at hc
  split at hc
  · obtain ⟨CL, CT, CR, T⟩ := h.kt
    obtain ⟨c0, t1, t2⟩ := h.tb
    exact told_ok h.ok h.fn T h.ft t1 t2 h.room h.xf hc
  · exact plainL h hc
theorem chkL0s_ok (h : CokL p n N sc xl X P) : ∀ (ss : List S) (sts : List Stmt), chkL0s p N sc xl ss sts = true → PSs X sts (tL [(P, X.env.qual ++ "<lambda>")] (cfOf p n) p.wf X.K ss)
  | [], sts, hc => by
    unfold chkL0s at hc
    rw [List.isEmpty_iff.mp hc]
    exact lw_nil
  | s :: ss, sts, hc => by
    unfold chkL0s at hc
    split at hc
    · rw [Bool.and_eq_true] at hc
      exact lw_cons (chkL0_ok h s _ hc.1) (chkL0s_ok h ss _ hc.2)
    · exact nomatch hc
theorem forL_ok (h : CokL p n N sc xl X P) {tg' : Tg} {k : Src} {es : List E} {body' : List S} {st : Stmt} (hc : forL p N sc xl tg' k es body' st = true) : PS X st (tL1 [(P, X.env.qual ++ "<lambda>")] (cfOf p n) p.wf X.K (.for_ tg' k es body')) := by
  unfold forL at hc
  split at hc
  · rw [Bool.and_eq_true] at hc
    obtain ⟨hh, hb⟩ := hc
    unfold forOk at hh
    simp only [Bool.and_eq_true] at hh
    obtain ⟨⟨h1, h2⟩, h3⟩ := hh
    split at h3
    · rename_i as hs
      obtain ⟨g1, g2⟩ := tg_ok (top := true) h.ok (fun x _ _ => .inl (h.fn x)) h1
      have hpa := chkEs_ok es true sc X _ h.ok h3
      have hi := src_ok (b := true) h.ok h2 hs h3 hpa fun e0 e0' ea es0 => by
        subst ea es0
        rw [chkEs, Bool.and_eq_true, Bool.and_eq_true] at h3
        exact (chkE_ok e0' sc X _ h.ok h3.1.1).st (by simpa using h3.1.2)
      exact lw_for h.pass h.ok.calm hi g1 (chkL0s_ok h body' _ hb) (noFold hs h3)
    · exact nomatch h3
  · exact nomatch hc
theorem chkL1_ok (h : CokL p n N sc xl X P) (s : S) (st : Stmt) (hc : chkL1 p N sc xl s st = true) : PS X st (tL1 [(P, X.env.qual ++ "<lambda>")] (cfOf p n) p.wf X.K s) := by
  unfold chkL1 at hc
  split at hc
  · split at hc
    · exact forL_ok h hc
    · exact plainL h hc
  · exact chkL0_ok h s st hc
theorem chkLs_ok (h : CokL p n N sc xl X P) : ∀ (ss : List S) (sts : List Stmt), chkLs p N sc xl ss sts = true → PSs X sts (tL [(P, X.env.qual ++ "<lambda>")] (cfOf p n) p.wf X.K ss)
  | [], sts, hc => by
    unfold chkLs at hc
    rw [List.isEmpty_iff.mp hc]
    exact lw_nil
  | s :: ss, sts, hc => by
    unfold chkLs at hc
    split at hc
    · rw [Bool.and_eq_true] at hc
      exact lw_cons (chkL1_ok h s _ hc.1) (chkLs_ok h ss _ hc.2)
    · exact nomatch hc
end
def spT (K : PySem.W.Frag) (p : Pg) (n : Nat) (fn : Fn) (T : List (Addr × Str)) : Sp := fun vs H Q _ => ∃ (a : Addr) (ns : List Int), vs = [.ref a] ∧ SqL K H a (ns.map V.int) ∧ Tabs T H ∧ finish (xss (cfOf p n) p.wf fn.body (startR fn [.lst (ns.map D.int)])) = .ok (.bl true) ∧ ∀ H', Q (.bl true) H'
def lamQ (sc : Scope) : Str := (envOfC "law" sc 0 0 .none).qual ++ "<lambda>"
section
variable {P : Program} {w : World} {K : PySem.W.Frag} {mg : Str → Option Value} {base : Heap} {p : Pg} {xl : List Str}
theorem law_okT {n : Nat} {f c0 PT : Addr} {params : Arguments} {body : List Stmt} {sc : Scope} {kV doc pm ct oc : Value} {an od : Option Addr} {osl : Array (Option Value)} {N : List Str} {fn : Fn} (nl : noLst K = true)
    (lk : K.lookup f = some ⟨oc, od, .func (PySem.W.fnOf "law" "law" params body sc .none kV doc pm an (.ref c0) ct), osl⟩) (hcd : PySem.W.codeIn K (.ref c0) "law" = true) (S : FnScope N ["script"] sc) (hns : fn.ns = N.length)
    (hc : chkLs p N sc xl fn.body body = true) (glb : ∀ x d, p.glb.lookup x = some d → ∃ v u, mg x = some u ∧ RelV v u ∧ ∀ O H, Rp K O H d v) (blt : ∀ x ∈ bltNames, mg x = none)
    (dct : ∀ x kvs, p.dct.lookup x = some kvs → DctOk K w mg x kvs) (rps : ∀ x y, (x, y) ∈ p.rps → RpsOk p mg x y) (kt : ∃ CL CT CR, ToldK K mg CL CT CR) (ft : ToldF K mg) (TB : TabB base mg c0 PT)
    (fns : ∀ f fn, p.fns.lookup f = some fn → ∃ a fd ps, mg f = some (.ref a) ∧ PySem.W.keepIn K (.ref a) = true ∧ Binds K fd ps [] ∧ FnOk P w K mg base CX0 n a fd ps (spF K (run p n f)))
    (xf : ∀ f ∈ xl, ∃ a fd ps, mg f = some (.ref a) ∧ PySem.W.keepIn K (.ref a) = true ∧ Binds K fd ps [] ∧ FnOk P w K mg base (L2.CX P w) n a fd ps (spX K mg (run p n f) (runX p n f))) :
    FnOk P w K mg base CX0 (n + 3) f (PySem.W.fnOf "law" "law" params body sc .none kV doc pm an (.ref c0) ct) ["script"] (spT K p n fn [(PT, lamQ sc)]) := by
  refine fn_of lk hcd S (fun vs H Q E hsp => ?_) (fun A outer s H vs Q E hr hsp => ?_)
  · obtain ⟨a, ns, rfl, _⟩ := hsp
    rfl
  · obtain ⟨a, ns, rfl, hS, tb, hrun, q⟩ := hsp
    have ck : Cok p n N sc (cxOf CX0 P w K mg base N "law" sc f (.ref c0) A outer s H E).nox := ⟨rfl, S.nd, rfl, rfl, hr.mono (by omega), glb, blt, fns, dct, rps⟩
    have cl : CokL p n N sc xl (cxOf CX0 P w K mg base N "law" sc f (.ref c0) A outer s H E).nox PT := ⟨ck, S.kind, fun _ => rfl, PassesOwn.never, kt, ft, ⟨c0, TB, rfl⟩, hr, xf⟩
    refine ⟨_, (chkLs_ok cl fn.body body hc).nox, ?_⟩
    have r : RpL K NO H [.lst (ns.map D.int)] [.ref a] := RpL.cons (by rw [Rp]; exact ⟨a, _, rfl, ⟨rd_of_noLst nl hS, fun z => z⟩, rpl_ofInts ns⟩) RpL.nil
    have hfin := hrun
    cases hx : xss (cfOf p n) p.wf fn.body (startR fn [.lst (ns.map D.int)]) with
    | ok fl =>
      rw [hx] at hfin
      refine ⟨startR fn [.lst (ns.map D.int)], fl, (ok_start (fun b hb => hb.elim) r hns).ok, tb, hx, ?_⟩
      cases fl with
      | nx ρ' => exact nomatch hfin
      | rt d' =>
        cases hfin
        exact fun v H' r' => by
          rw [Rp] at r'
          subst r'
          exact q H'
    | exc c => rw [hx] at hfin; exact nomatch hfin
    | bad => rw [hx] at hfin; exact nomatch hfin
end
/-- the law's code object, as the top has left it -/
def hdIn (c PT : Addr) (vs : Array Value) : Bool := (vs[11]? == some (.ref PT)) && (match vs.getD 18 .none with
  | .str _ _ => true
  | _ => false) && (match vs.getD 7 .none with
  | .int _ _ => true
  | _ => false) && (match vs.getD 9 .none with
  | .bool _ => true
  | _ => false) && (match vs.getD 10 .none with
  | .int _ _ => true
  | _ => false) && !(c == PT)
theorem codeHd_in {K : PySem.W.Frag} {h : Heap} {c PT : Addr} {dd : Option Addr} {vs : Array Value} {sl : Array (Option Value)} (X : K.In h) (lk : K.lookup c = some ⟨.type "code", dd, .fields vs, sl⟩) (hh : hdIn c PT vs = true) : PySem.W.CodeHd h c PT := by
  unfold hdIn at hh
  simp only [Bool.and_eq_true] at hh
  obtain ⟨⟨⟨⟨⟨h1, h2⟩, h3⟩, h4⟩, h5⟩, h6⟩ := hh
  have e1 := eq_of_beq h1
  split at h2
  · rename_i file tf e2
    split at h3
    · rename_i flags tg e3
      split at h4
      · rename_i inF e4
        split at h5
        · rename_i text tt e5
          refine ⟨_, vs, file, tf, flags, tg, inF, text, tt, X _ _ lk, rfl, rfl, e1, ?_, e2, e3, e4, e5, fun z => by rw [z] at h6; simp at h6⟩
          rw [Array.getD_eq_getD_getElem?, e1]
          rfl
        · exact nomatch h5
      · exact nomatch h4
    · exact nomatch h3
  · exact nomatch h2
theorem tabs_one {H : Hp} {PT : Addr} {q : Str} (h : H PT = some (.tbl #[])) : Tabs [(PT, q)] H := fun x hx => by
  rcases List.mem_cons.mp hx with z | z
  · rw [z]
    exact TabS.nil h
  · exact nomatch z
end LC

set_option Elab.async false
set_option linter.all false
set_option maxRecDepth 100000
set_option maxHeartbeats 4000000
/-! LC: stepping: while, deeds told, what is raised -/
namespace LC
open PySem L2
section
variable {c : Cf} {wf : Nat} {ρ : Rho} {i : Nat} {r : List S} {d : D}
/-! while -/
def whT (c : Cf) (t : E) (ρ : Rho) : R Bool := (ev c t ρ).bind rTruth
def whB (c : Cf) (wf : Nat) (body : List S) (ρ : Rho) : R Fl := xss c wf body ρ
theorem xs_whl {t : E} {body : List S} : xss c wf (.whl t body :: r) ρ = kSeq (whlGo (whT c t) (whB c wf body) wf ρ) c wf r := by
  rw [xss, xs]
  show R.bind (whlGo (whT c t) (whB c wf body) wf ρ) _ = _
  cases whlGo (whT c t) (whB c wf body) wf ρ with
  | ok z => cases z <;> rfl
  | exc => rfl
  | bad => rfl
theorem whl_by {t : Rho → R Bool} {f : Rho → R Fl} (P : Nat → Rho → Prop) (h : ∀ k ρ, P k ρ → (t ρ = .ok true ∧ ∃ ρ', f ρ = .ok (.nx ρ') ∧ ∃ k', k' < k ∧ P k' ρ') ∨ (t ρ = .ok false ∧ P 0 ρ)) :
    ∀ n k ρ, k < n → P k ρ → ∃ ρ', whlGo t f n ρ = .ok (.nx ρ') ∧ t ρ' = .ok false ∧ P 0 ρ'
  | 0, k, ρ, hk, _ => absurd hk (Nat.not_lt_zero _)
  | n + 1, k, ρ, hk, hp => by
    rcases h k ρ hp with ⟨h1, ρ', h2, k', hk', hp'⟩ | ⟨h1, h2⟩
    · obtain ⟨ρ2, e, g⟩ := whl_by P h n k' ρ' (by omega) hp'
      refine ⟨ρ2, ?_, g⟩
      rw [whlGo, h1]
      show R.bind (f ρ) _ = _
      rw [h2]
      exact e
    · refine ⟨ρ, ?_, h1, h2⟩
      rw [whlGo, h1]
      rfl
theorem whl_fin {t : E} {body : List S} {z : R D} (P : Nat → Rho → Prop) (k : Nat) (hk : k < wf) (h0 : P k ρ) (h : ∀ k ρ, P k ρ → (whT c t ρ = .ok true ∧ ∃ ρ', xss c wf body ρ = .ok (.nx ρ') ∧ ∃ k', k' < k ∧ P k' ρ') ∨ (whT c t ρ = .ok false ∧ P 0 ρ))
    (h2 : ∀ ρ', whT c t ρ' = .ok false → P 0 ρ' → finish (xss c wf r ρ') = z) : finish (kSeq (whlGo (whT c t) (whB c wf body) wf ρ) c wf r) = z := by
  obtain ⟨ρ', e, g1, g2⟩ := whl_by (t := whT c t) (f := whB c wf body) P h wf k ρ hk h0
  rw [e]
  exact h2 ρ' g1 g2
theorem whT_eq {t : E} {b : Bool} (h : ev c t ρ = .ok (.bl b)) : whT c t ρ = .ok b := by
  unfold whT
  rw [h]
  rfl
/-! deeds told -/
def kTld : R (List D) → Str → Cf → Nat → Nat → List S → Rho → R Fl
  | .ok ds, f, c, i, wf, r, ρ => match tldR (c.call f ds) (c.xc f ds) with
    | .ok d => xss c wf r (ρ.set i (some d))
    | .exc x => .exc x
    | .bad => .bad
  | .exc x, _, _, _, _, _, _ => .exc x
  | .bad, _, _, _, _, _, _ => .bad
theorem xs_told {f : Str} {es : List E} : xss c wf (.told i f es :: r) ρ = kTld (evs c es ρ) f c i wf r ρ := by
  rw [xss, xs]
  cases evs c es ρ with
  | ok ds =>
    show R.bind (R.bind (tldR (c.call f ds) (c.xc f ds)) _) _ = match tldR (c.call f ds) (c.xc f ds) with
      | .ok d => xss c wf r (ρ.set i (some d))
      | .exc x => .exc x
      | .bad => .bad
    cases tldR (c.call f ds) (c.xc f ds) <;> rfl
  | exc => rfl
  | bad => rfl
theorem kTld_ok {f : Str} {ds : List D} (h : c.call f ds = .ok d) : kTld (.ok ds) f c i wf r ρ = xss c wf r (ρ.set i (some (.tup [.str "told", d]))) := by
  unfold kTld
  dsimp only
  rw [h]
  rfl
theorem kTld_T {f : Str} {ds : List D} (h : c.call f ds = .bad) (h2 : c.xc f ds = some ("NoText" : Str)) : kTld (.ok ds) f c i wf r ρ = xss c wf r (ρ.set i (some (.tup [.str "refused", .int 0]))) := by
  unfold kTld
  dsimp only
  rw [h, h2]
  rfl
theorem kTld_R {f : Str} {ds : List D} (h : c.call f ds = .bad) (h2 : c.xc f ds = some ("NoRoom" : Str)) : kTld (.ok ds) f c i wf r ρ = xss c wf r (ρ.set i (some (.tup [.str "refused", .int 1]))) := by
  unfold kTld
  dsimp only
  rw [h, h2]
  rfl
/-! what is raised -/
theorem xr_nil : xrs c wf [] ρ = none := by rw [xrs]
theorem xr_rse {x : Str} : xrs c wf (.rse x :: r) ρ = some x := by rw [xrs, xr]
def kXi : R D → Cf → Nat → List S → List S → Rho → Option Str
  | .ok (.bl true), c, wf, a, _, ρ => xrs c wf a ρ
  | .ok (.bl false), c, wf, _, b, ρ => xrs c wf b ρ
  | _, _, _, _, _, _ => none
theorem xr_app : ∀ (a : List S) (ρ : Rho) (r : List S), xrs c wf (a ++ r) ρ = match xrs c wf a ρ with
    | some x => some x
    | none => match xss c wf a ρ with
      | .ok (.nx ρ') => xrs c wf r ρ'
      | _ => none
  | [], ρ, r => by rw [xr_nil, xss]; rfl
  | s :: a, ρ, r => by
    rw [List.cons_append, xrs, xrs]
    cases h : xr c wf s ρ with
    | some x => rfl
    | none =>
      dsimp only
      rw [xss]
      cases hs : xs c wf s ρ with
      | ok z => cases z with
        | nx ρ' => exact xr_app a ρ' r
        | rt d => rfl
      | exc => rfl
      | bad => rfl
theorem xr_ife {t : E} {a b : List S} {v : Bool} (h : ev c t ρ = .ok (.bl v)) : xrs c wf (.ife t a b :: r) ρ = xrs c wf (cond v a b ++ r) ρ := by
  have e : xs c wf (.ife t a b) ρ = xss c wf (cond v a b) ρ := by
    rw [xs, h]
    cases v <;> rfl
  have e2 : xr c wf (.ife t a b) ρ = xrs c wf (cond v a b) ρ := by
    rw [xr, h]
    cases v <;> rfl
  rw [xrs, xr_app, e, e2] <;> rfl
theorem xr_set {e : E} (h : xev c e ρ = none) (h2 : ev c e ρ = .ok d) : xrs c wf (.set i e :: r) ρ = xrs c wf r (ρ.set i (some d)) := by
  rw [xrs, xr, h]
  dsimp only
  rw [xs, h2]
  rfl
end
end LC

set_option Elab.async false
set_option linter.all false
set_option maxRecDepth 100000
set_option maxHeartbeats 4000000
/-! LC: learnt by the law; letters that are none -/
namespace LC
open PySem L2
theorem tf_flt {s : Int} : ∀ {l : List Int} {y : Int}, l.Pairwise (· ≤ ·) → tfGo s (some y) l = tfGo s none (l.filter fun x => decide (y + s < x))
  | [], y, _ => rfl
  | x :: r, y, h => by
    have h' := List.pairwise_cons.mp h
    rw [tfGo]
    by_cases c : y + s < x
    · rw [if_pos c, List.filter_cons, if_pos (decide_eq_true c), tfGo]
      congr 1
      have : r.filter (fun x => decide (y + s < x)) = r := List.filter_eq_self.mpr fun z hz => decide_eq_true (by have := h'.1 z hz; omega)
      rw [this]
    · rw [if_neg c, List.filter_cons, if_neg (by simpa using c)]
      exact tf_flt h'.2
theorem tf_cons {s x : Int} {r : List Int} (hs : 0 ≤ s) (h : (x :: r).Pairwise (· ≤ ·)) : tfGo s none (x :: r) = (x + s) :: tfGo s none ((x :: r).filter fun z => decide (x + s + s < z)) := by
  have h' := List.pairwise_cons.mp h
  rw [tfGo, tf_flt h'.2, List.filter_cons, if_neg (by simp; omega)]
theorem tf_mem {s : Int} (hs : 0 ≤ s) : ∀ (n : Nat) (l m : List Int), l.length ≤ n → l.Pairwise (· ≤ ·) → m.Pairwise (· ≤ ·) → (∀ k, k ∈ l ↔ k ∈ m) → tfGo s none l = tfGo s none m
  | _, [], [], _, _, _, _ => rfl
  | _, [], y :: m, _, _, _, h => nomatch (h y).mpr List.mem_cons_self
  | _, x :: l, [], _, _, _, h => nomatch (h x).mp List.mem_cons_self
  | 0, x :: l, y :: m, hn, _, _, _ => by rw [List.length_cons] at hn; omega
  | n + 1, x :: l, y :: m, hn, h1, h2, h => by
    have e1 := List.pairwise_cons.mp h1
    have e2 := List.pairwise_cons.mp h2
    have hxy : x = y := by
      have a1 : y ≤ x := by
        rcases List.mem_cons.mp ((h x).mp List.mem_cons_self) with z | z
        · omega
        · exact e2.1 x z
      have a2 : x ≤ y := by
        rcases List.mem_cons.mp ((h y).mpr List.mem_cons_self) with z | z
        · omega
        · exact e1.1 y z
      omega
    subst hxy
    rw [tf_cons hs h1, tf_cons hs h2]
    congr 1
    refine tf_mem hs n _ _ ?_ (h1.filter _) (h2.filter _) fun k => ?_
    · rw [List.filter_cons, if_neg (by simp; omega)]
      have := List.length_filter_le (fun z => decide (x + s + s < z)) l
      rw [List.length_cons] at hn
      omega
    · rw [List.mem_filter, List.mem_filter, h k]
theorem lrn_U {s : Int} (hs : 0 ≤ s) (row : List Int) : lrnL row s = tfGo s none (srtU row) :=
  tf_mem hs _ _ _ (Nat.le_refl _) (srtI_srt row) ((srtU_lt row).imp fun {a b} z => by omega) fun k => by
    rw [srtU_mem, (srtI_perm row).mem_iff]
def gFl (y : Int) : D → Option D
  | .int x => if y < x then some (.int x) else none
  | _ => none
theorem gFl_map (y : Int) : ∀ l : List Int, (l.map D.int).filterMap (gFl y) = (l.filter fun x => decide (y < x)).map D.int
  | [] => rfl
  | x :: r => by
    rw [List.map_cons, List.filterMap_cons, List.filter_cons, gFl]
    by_cases c : y < x
    · rw [if_pos c, if_pos (decide_eq_true c), gFl_map y r]
      rfl
    · rw [if_neg c, if_neg (by simpa using c), gFl_map y r]
def gNr (s t : Int) : Nat → D → Option D := fun i d => match d with
  | .int x => if (if x - t < 0 then -(x - t) else x - t) ≤ s then some (.int (i : Nat)) else none
  | _ => none
theorem gNr_head {s t : Int} : ∀ (T : List Int) (i : Nat), (∃ x ∈ T, x - t ≤ s ∧ t - x ≤ s) → ∃ r, enFM (gNr s t) i (T.map D.int) = .int ((i + idxL s t T : Nat) : Int) :: r
  | [], i, ⟨_, h, _⟩ => nomatch h
  | y :: r, i, h => by
    rw [List.map_cons, enFM, idxL]
    by_cases c : (if y - t < 0 then -(y - t) else y - t) ≤ s
    · have e : gNr s t i (.int y) = some (.int (i : Nat)) := if_pos c
      rw [e, if_pos c]
      exact ⟨_, rfl⟩
    · have e : gNr s t i (.int y) = none := if_neg c
      rw [e, if_neg c]
      obtain ⟨q, hq⟩ := gNr_head r (i + 1) (by
        obtain ⟨x, hx, h1, h2⟩ := h
        rcases List.mem_cons.mp hx with rfl | hx
        · exfalso
          split at c <;> omega
        · exact ⟨x, hx, h1, h2⟩)
      exact ⟨q, by rw [show i + (idxL s t r + 1) = i + 1 + idxL s t r by omega]; exact hq⟩
/-! letters that are none -/
theorem abc_lit : ("abcdefghijklmnopqrstuvwxyz" : Str) = ABC := rfl
def EVY : Str := "abcdefghijklmnopqrstuvwxyz~"
theorem evy_lit : ("abcdefghijklmnopqrstuvwxyz~" : Str) = EVY := rfl
theorem cut_ABC : ∀ n : Nat, n ≤ 26 → (cutS ABC none (some (n : Int))).cps.toList = (List.range n).map (97 + ·) := by decide +kernel
theorem cut_EVY : ∀ n : Nat, n ≤ 26 → (cutS EVY none (some (n : Int))).cps.toList = (List.range n).map (97 + ·) := by decide +kernel
theorem cut_evy {n : Int} : dCut (.str EVY) none (some n) = .ok (.str (cutS EVY none (some n))) := by
  show (if EVY.length ≤ LIM then R.ok (D.str (cutS EVY none (some n))) else .bad) = _
  rw [if_pos (by decide +kernel)]
def okC (n c : Nat) : Bool := decide (97 ≤ c ∧ c < 97 + n)
theorem mem_rng (n c : Nat) : decide (c ∈ (List.range n).map (97 + ·)) = okC n c := by
  unfold okC
  refine decide_eq_decide.mpr ?_
  rw [List.mem_map]
  constructor
  · rintro ⟨a, ha, rfl⟩
    have := List.mem_range.mp ha
    omega
  · intro h
    exact ⟨c - 97, List.mem_range.mpr (by omega), by omega⟩
theorem in_abcC {c n : Nat} (hn : n ≤ 26) : dCmp .In (.str (sN [c])) (.str (cutS ABC none (some (n : Int)))) = .ok (.bl (okC n c)) := by
  show R.ok (D.bl (decide (c ∈ (cutS ABC none (some (n : Int))).cps.toList))) = _
  rw [cut_ABC n hn, mem_rng]
theorem nin_evyC {c n : Nat} (hn : n ≤ 26) : dCmp .NotIn (.str (sN [c])) (.str (cutS EVY none (some (n : Int)))) = .ok (.bl (!okC n c)) := by
  show R.ok (D.bl (!decide (c ∈ (cutS EVY none (some (n : Int))).cps.toList))) = _
  rw [cut_EVY n hn, mem_rng]
theorem ix_evy {n : Nat} (h : n ≤ 26) : dIdx (.str EVY) (.int (n : Int)) = .ok (.str (sN [if n = 26 then 126 else 97 + n])) := by
  have : ∀ i : Nat, i ≤ 26 → atI EVY.cps.toList (i : Int) = some (if i = 26 then 126 else 97 + i) := by decide +kernel
  show (if EVY.length ≤ LIM then (match atI EVY.cps.toList (n : Int) with | some c => R.ok (D.str ⟨#[c]⟩) | none => .bad) else .bad) = _
  rw [if_pos (by decide +kernel), this n h]
theorem index_evy {i : Nat} (h : i < 26) : dMth .index (.str EVY) [.str (sN [97 + i])] = .ok (.int (i : Int)) := by
  have : ∀ i : Nat, i < 26 → Builtin.Str.occurrences EVY (sN [97 + i]) 0 EVY.length 1 = [i] := by decide +kernel
  show (match Builtin.Str.occurrences EVY (sN [97 + i]) 0 EVY.length 1 with | i :: _ => R.ok (D.int (i : Nat)) | [] => .bad) = _
  rw [this i h]
def cOf : D → Nat
  | .str s => s.cps.toList.headD 0
  | _ => 0
def gBadC (n : Nat) (d : D) : Option D := if okC n (cOf d) then none else some d
def gInC (n : Nat) (d : D) : D := .bl (okC n (cOf d))
theorem gBadC_map (n : Nat) : ∀ z : List Nat, (z.map fun c => D.str (sN [c])).filterMap (gBadC n) = (z.filter fun c => !okC n c).map fun c => D.str (sN [c])
  | [] => rfl
  | c :: z => by
    rw [List.map_cons, List.filterMap_cons, List.filter_cons]
    have e : cOf (.str (sN [c])) = c := rfl
    unfold gBadC
    rw [e]
    cases h : okC n c with
    | true => exact gBadC_map n z
    | false =>
      show _ :: (z.map fun c => D.str (sN [c])).filterMap (gBadC n) = _
      rw [gBadC_map n z]
      rfl
theorem gInC_map (n : Nat) (z : List Nat) : (z.map fun c => D.str (sN [c])).map (gInC n) = (z.map (okC n)).map D.bl := by
  rw [List.map_map, List.map_map]
  rfl
theorem xs_rse {c : Cf} {wf : Nat} {x : Str} {r : List S} {ρ : Rho} : xss c wf (.rse x :: r) ρ = .bad := by
  rw [xss, xs]
  rfl
/-- two statements that raise nothing, then a name given back -/
theorem xr_calm {c : Cf} {wf : Nat} {ρ : Rho} {i j : Nat} {es : List E} {tg : Tg} {k : Src} {ss : List E} {b : List S} : xrs c wf [.set i (.tup es), .for_ tg k ss b, .ret (.var j)] ρ = none := by
  rw [xrs, xr, show xev c (.tup es) ρ = none from rfl]
  dsimp only
  split
  · rename_i ρ1 _
    rw [xrs, xr]
    · dsimp only
      split
      · rename_i ρ2 _
        rw [xrs, xr, show xev c (.var j) ρ2 = none from rfl]
        dsimp only
        split
        · exact xr_nil
        · rfl
      · rfl
    all_goals (intros; contradiction)
  · rfl
end LC
namespace LC
theorem insU_le (x : Int) : ∀ l : List Int, (insU x l).length ≤ l.length + 1
  | [] => Nat.le_refl _
  | y :: r => by
    rw [insU]
    split
    · exact Nat.le_refl _
    · split
      · exact Nat.le_succ _
      · have := insU_le x r
        rw [List.length_cons, List.length_cons]
        omega
theorem srtU_le : ∀ l : List Int, (srtU l).length ≤ l.length
  | [] => Nat.le_refl _
  | x :: r => by
    rw [srtU]
    have h1 := insU_le x (srtU r)
    have h2 := srtU_le r
    rw [List.length_cons]
    omega
end LC
namespace LC
open PySem L2
theorem cutS_sN (l : List Nat) (lo hi : Option Int) : cutS (sN l) lo hi = sN (cutL l lo hi) := by
  unfold cutS cutL
  rw [sN_len]
theorem dCut_s {l : List Nat} {lo hi : Option Int} (h : l.length ≤ 1000000) : dCut (.str (sN l)) lo hi = .ok (.str (sN (cutL l lo hi))) := by
  show (if (sN l).length ≤ LIM then R.ok (D.str (cutS (sN l) lo hi)) else .bad) = _
  rw [if_pos (by rw [sN_len]; exact h), cutS_sN]
theorem lit_a : ("a" : Str) = sN [97] := rfl
theorem lit_e : ("" : Str) = sN [] := rfl
end LC
namespace LC
theorem idx_le (s t : Int) : ∀ l : List Int, idxL s t l ≤ l.length
  | [] => Nat.le_refl _
  | x :: r => by
    rw [idxL]
    have := idx_le s t r
    rw [List.length_cons]
    generalize (if x - t < 0 then -(x - t) else x - t) = y
    split <;> omega
end LC

set_option Elab.async false
set_option linter.all false
set_option maxRecDepth 100000
set_option maxHeartbeats 4000000
namespace K40
open PySem PySem.Spec PyProof.Rows L2 LC
def topS (i : Nat) : Stmt := PySem.Challenge.pw_lampcodes_k40_learnt.main.body.getD i (.Pass ⟨0, 0, 0, 0⟩)
def f_times_for : Fn := ⟨2, 4, [.set 2 (.tup []),
    .for_ (.one 3) .seq [.bi .sorted [.var 0]] [.ife (.or (.cmp .Eq (.bi .len [.var 2]) (.cst (.int 0))) (.cmp .Gt (.var 3) (.bin .Add (.idx (.var 2) (.neg (.cst (.int 1)))) (.var 1)))) [.set 2 (.bin .Add (.var 2) (.tup [.bin .Add (.var 3) (.var 1)]))] []],
    .ret (.var 2)]⟩
def f_letter_of : Fn := ⟨3, 5, [.for_ (.many [3, 4]) .enum [.var 0] [.ife (.cmp .LtE (.bi .abs [.bin .Sub (.var 4) (.var 1)]) (.var 2)) [.ret (.idx (.glb "LETTERS") (.var 3))] []],
    .ret (.cst (.str ""))]⟩
def f_learnt : Fn := ⟨2, 4, [.set 2 (.call "times_for" [.var 0, .var 1]),
    .ife (.cmp .Gt (.bi .len [.var 2]) (.bi .len [.glb "LETTERS"])) [.rse "NoRoom"] [],
    .ret (.tup [.var 2, .mth .join (.cst (.str "")) [.lc [3] (.one 3) .seq [.var 0] (.cst (.bl true)) (.call "letter_of" [.var 2, .var 3, .var 1])]])]⟩
def f_unlearnt : Fn := ⟨2, 3, [.ife (.or (.cmp .Eq (.bin .Mod (.bi .len [.var 1]) (.cst (.int 2))) (.cst (.int 0))) (.not (.bi .all [.lc [2] (.one 2) .seq [.var 1] (.cst (.bl true)) (.cmp .In (.var 2) (.cut (.glb "LETTERS") false (.cst .non) true (.bi .len [.var 0])))]))) [.rse "NoText"] [],
    .ret (.bi .tuple [.lc [2] (.one 2) .seq [.var 1] (.cst (.bl true)) (.idx (.var 0) (.mth .index (.glb "LETTERS") [.var 2]))])]⟩
def f__law_cell_at : Fn := ⟨2, 2, [.ife (.cmp .Lt (.var 1) (.bi .len [.var 0])) [.ret (.idx (.var 0) (.var 1))] [],
    .ret (.cst (.int 0))]⟩
def f__law_mixed : Fn := ⟨2, 3, [.set 2 (.bin .Mod (.bin .Mult (.bin .Add (.bin .Add (.call "_law_cell_at" [.var 0, .var 1]) (.bin .Mult (.cst (.int 7919)) (.var 1))) (.cst (.int 1))) (.cst (.int 48271))) (.cst (.int 2147483647))),
    .ret (.bin .Mod (.bin .Add (.bin .Add (.bin .Mult (.var 2) (.var 2)) (.bin .Mult (.cst (.int 7)) (.var 2))) (.var 1)) (.cst (.int 2147483629)))]⟩
def f__law_drawn : Fn := ⟨2, 3, [.set 2 (.bin .Mod (.bin .Mult (.bin .Add (.bin .Add (.var 0) (.bin .Mult (.cst (.int 104729)) (.var 1))) (.cst (.int 17))) (.cst (.int 69621))) (.cst (.int 2147483647))),
    .ret (.bin .Mod (.bin .Add (.bin .Add (.bin .Mult (.var 2) (.var 2)) (.bin .Mult (.cst (.int 3)) (.var 2))) (.var 1)) (.cst (.int 2147483629)))]⟩
def f__law_row : Fn := ⟨3, 5, [.set 3 (.bin .Add (.cst (.int 1)) (.bin .Mult (.cst (.int 2)) (.bin .Mod (.var 0) (.var 1)))),
    .ret (.bi .tuple [.lc [4] (.one 4) .rng [.var 3] (.cst (.bl true)) (.bin .Add (.cst (.int 1)) (.bin .Mod (.bin .FloorDiv (.call "_law_drawn" [.var 0, .bin .Add (.cst (.int 20)) (.var 4)]) (.cst (.int 4))) (.var 2)))])]⟩
def f__law_learnt : Fn := ⟨2, 9, [.set 2 (.sst (.var 0)),
    .set 3 (.tup []),
    .whl (.cmp .NotEq (.var 2) (.lst [])) [.set 3 (.bin .Add (.var 3) (.tup [.bin .Add (.idx (.var 2) (.cst (.int 0))) (.var 1)])),
      .set 2 (.lc [4] (.one 4) .seq [.var 2] (.cmp .Gt (.var 4) (.bin .Add (.idx (.var 3) (.neg (.cst (.int 1)))) (.var 1))) (.var 4))],
    .set 5 (.cst (.str "")),
    .for_ (.one 4) .seq [.var 0] [.set 6 (.lc [7, 8] (.many [7, 8]) .enum [.var 3] (.cmp .LtE (.bi .abs [.bin .Sub (.var 8) (.var 4)]) (.var 1)) (.var 7)),
      .set 5 (.bin .Add (.var 5) (.idx (.cst (.str "abcdefghijklmnopqrstuvwxyz")) (.idx (.var 6) (.cst (.int 0)))))],
    .ret (.tup [.var 3, .var 5])]⟩
def f_law : Fn := ⟨1, 17, [.set 1 (.call "_law_mixed" [.var 0, .cst (.int 0)]),
    .set 2 (.call "_law_row" [.call "_law_mixed" [.var 0, .cst (.int 1)], .cst (.int 13), .idx (.tup [.cst (.int 9), .cst (.int 60), .cst (.int 900), .cst (.int 3)]) (.bin .Mod (.var 1) (.cst (.int 4)))]),
    .set 3 (.bin .Mod (.bin .FloorDiv (.var 1) (.cst (.int 4))) (.idx (.tup [.cst (.int 1), .cst (.int 4), .cst (.int 40), .cst (.int 500)]) (.bin .Mod (.bin .FloorDiv (.var 1) (.cst (.int 4096))) (.cst (.int 4))))),
    .set 4 (.call "_law_learnt" [.var 2, .var 3]),
    .ife (.cmp .NotEq (.call "learnt" [.var 2, .var 3]) (.var 4)) [.ret (.cst (.bl false))] [],
    .unp [5, 6] (.var 4),
    .set 7 (.cst (.str "abcdefghijklmnopqrstuvwxyz~")),
    .ife (.cmp .NotEq (.call "unlearnt" [.var 5, .var 6]) (.bi .tuple [.lc [8] (.one 8) .seq [.var 6] (.cst (.bl true)) (.idx (.var 5) (.mth .index (.var 7) [.var 8]))])) [.ret (.cst (.bl false))] [],
    .set 9 (.idx (.lst [.cst (.str "A"), .cst (.str " "), .cst (.str "0"), .cst (.str "")]) (.bin .Mod (.bin .FloorDiv (.var 1) (.cst (.int 16384))) (.cst (.int 4)))),
    .for_ (.one 10) .seq [.tup [.bin .Add (.var 6) (.cut (.var 6) false (.cst .non) true (.cst (.int 1))), .bin .Add (.bin .Add (.var 6) (.var 9)) (.cst (.str "a")), .cst (.str ""), .bin .Add (.cut (.var 6) false (.cst .non) true (.neg (.cst (.int 1)))) (.idx (.var 7) (.bi .len [.var 5]))]] [.set 11 (.lc [12] (.one 12) .seq [.var 10] (.cmp .NotIn (.var 12) (.cut (.var 7) false (.cst .non) true (.bi .len [.var 5]))) (.var 12)),
      .set 13 (.and (.cmp .Eq (.bin .Mod (.bi .len [.var 10]) (.cst (.int 2))) (.cst (.int 1))) (.cmp .Eq (.var 11) (.lst []))),
      .told 14 "unlearnt" [.var 5, .var 10],
      .ife (.or (.cmp .NotEq (.cmp .Eq (.idx (.var 14) (.cst (.int 0))) (.cst (.str "told"))) (.var 13)) (.and (.not (.var 13)) (.cmp .NotEq (.var 14) (.tup [.cst (.str "refused"), .cst (.int 0)])))) [.ret (.cst (.bl false))] []],
    .set 15 (.bi .tuple [.lc [16] (.one 16) .rng [.bin .Add (.cst (.int 25)) (.bin .Mult (.bin .Mod (.bin .FloorDiv (.var 1) (.cst (.int 65536))) (.cst (.int 2))) (.cst (.int 2)))] (.cst (.bl true)) (.bin .Add (.bin .Mult (.cst (.int 3)) (.var 16)) (.cst (.int 1)))]),
    .told 14 "learnt" [.var 15, .cst (.int 1)],
    .ife (.cmp .Gt (.bi .len [.var 15]) (.cst (.int 26))) [.ret (.cmp .Eq (.var 14) (.tup [.cst (.str "refused"), .cst (.int 1)]))] [],
    .ret (.and (.cmp .Eq (.var 14) (.tup [.cst (.str "told"), .tup [.bin .Add (.tup [.cst (.int 2), .cst (.int 5), .cst (.int 8)]) (.cut (.idx (.idx (.var 14) (.cst (.int 1))) (.cst (.int 0))) true (.cst (.int 3)) false (.cst .non)), .idx (.idx (.var 14) (.cst (.int 1))) (.cst (.int 1))]])) (.cmp .Eq (.bi .len [.idx (.idx (.var 14) (.cst (.int 1))) (.cst (.int 0))]) (.cst (.int 25))))]⟩
def pg : Pg := ⟨[("LETTERS", .str "abcdefghijklmnopqrstuvwxyz")], [("times_for", f_times_for), ("letter_of", f_letter_of), ("learnt", f_learnt), ("unlearnt", f_unlearnt), ("_law_cell_at", f__law_cell_at), ("_law_mixed", f__law_mixed), ("_law_drawn", f__law_drawn), ("_law_row", f__law_row), ("_law_learnt", f__law_learnt)], 100000, [], []⟩
def cf (n : Nat) : Cf := ⟨pg.glb, run pg n, pg.dct, runX pg n⟩
theorem call_cf {n : Nat} {f : Str} {xs : List D} : (cf n).call f xs = run pg n f xs := rfl
theorem glb_LETTERS {n : Nat} : oR ((cf n).glb.lookup ("LETTERS" : Str)) = .ok (.str "abcdefghijklmnopqrstuvwxyz") := rfl
theorem run_times_for {n : Nat} {a0 a1 : D} : run pg (n + 1) "times_for" [a0, a1] = finish (xss (cf n) 100000 f_times_for.body [some a0, some a1, none, none]) := rfl
theorem rx_times_for {n : Nat} {a0 a1 : D} : runX pg (n + 1) "times_for" [a0, a1] = xrs (cf n) 100000 f_times_for.body [some a0, some a1, none, none] := rfl
theorem run_letter_of {n : Nat} {a0 a1 a2 : D} : run pg (n + 1) "letter_of" [a0, a1, a2] = finish (xss (cf n) 100000 f_letter_of.body [some a0, some a1, some a2, none, none]) := rfl
theorem run_learnt {n : Nat} {a0 a1 : D} : run pg (n + 1) "learnt" [a0, a1] = finish (xss (cf n) 100000 f_learnt.body [some a0, some a1, none, none]) := rfl
theorem rx_learnt {n : Nat} {a0 a1 : D} : runX pg (n + 1) "learnt" [a0, a1] = xrs (cf n) 100000 f_learnt.body [some a0, some a1, none, none] := rfl
theorem run_unlearnt {n : Nat} {a0 a1 : D} : run pg (n + 1) "unlearnt" [a0, a1] = finish (xss (cf n) 100000 f_unlearnt.body [some a0, some a1, none]) := rfl
theorem rx_unlearnt {n : Nat} {a0 a1 : D} : runX pg (n + 1) "unlearnt" [a0, a1] = xrs (cf n) 100000 f_unlearnt.body [some a0, some a1, none] := rfl
theorem run__law_cell_at {n : Nat} {a0 a1 : D} : run pg (n + 1) "_law_cell_at" [a0, a1] = finish (xss (cf n) 100000 f__law_cell_at.body [some a0, some a1]) := rfl
theorem run__law_mixed {n : Nat} {a0 a1 : D} : run pg (n + 1) "_law_mixed" [a0, a1] = finish (xss (cf n) 100000 f__law_mixed.body [some a0, some a1, none]) := rfl
theorem run__law_drawn {n : Nat} {a0 a1 : D} : run pg (n + 1) "_law_drawn" [a0, a1] = finish (xss (cf n) 100000 f__law_drawn.body [some a0, some a1, none]) := rfl
theorem run__law_row {n : Nat} {a0 a1 a2 : D} : run pg (n + 1) "_law_row" [a0, a1, a2] = finish (xss (cf n) 100000 f__law_row.body [some a0, some a1, some a2, none, none]) := rfl
theorem run__law_learnt {n : Nat} {a0 a1 : D} : run pg (n + 1) "_law_learnt" [a0, a1] = finish (xss (cf n) 100000 f__law_learnt.body [some a0, some a1, none, none, none, none, none, none, none]) := rfl
theorem xc_cf {n : Nat} {f : Str} {xs : List D} : (cf n).xc f xs = runX pg n f xs := rfl
def lawR (n : Nat) (a0 : D) : R D := finish (xss (cf n) 100000 f_law.body [some a0, none, none, none, none, none, none, none, none, none, none, none, none, none, none, none, none])
theorem r_cell {n : Nat} (ns : List Int) (k : Int) (hk : 0 ≤ k) : ∃ v, run pg (n + 1) "_law_cell_at" [.lst (ns.map D.int), .int k] = .ok (.int v) := by
  rw [run__law_cell_at]
  by_cases h : k < ns.length
  · refine ⟨ns.getD k.toNat 0, ?_⟩
    have h2 : decide (k < (ns.length : Int)) = true := decide_eq_true h
    simp -implicitDefEqProofs (disch := first | exact sh_int | assumption | omega | (simp -implicitDefEqProofs only [List.length_cons, List.length_nil, List.length_map, List.length_append, List.length_reverse, List.length_take, List.length_drop, List.length_set, List.length_replicate, bitsM_len, bitsL_len]; omega) | (simp -implicitDefEqProofs only [sh_int, sh_oI, sh8_pairs, sh8_rows, sh8_row, sh9_row, sh9_p, sh_bl, sh_non, sh9t, sh9l, sh8t, sh8l, sh7t, sh7l, sh6t, sh6l, sh5t, sh5l, sh4t, sh4l, sh_ints, sh_str, List.all_cons, List.all_nil, List.all_append, List.all_reverse, Bool.and_true, Bool.and_self]; done) | (simp -implicitDefEqProofs only [sh_int, sh_oI, sh8_pairs, sh8_rows, sh8_row, sh9_row, sh9_p, sh_bl, sh_non, sh9t, sh9l, sh8t, sh8l, sh7t, sh7l, sh6t, sh6l, sh5t, sh5l, sh4t, sh4l, sh_ints, sh_str, List.all_cons, List.all_nil, List.all_append, List.all_reverse, Bool.and_true, Bool.and_self]; decide +kernel)) only [ev_var, ev_cst, ev_glb, ev_bin, ev_cmp, ev_neg, ev_not, ev_chn, ev_and, ev_or, ev_idx, ev_cut, ev_stp, ev_tup, ev_lst, ev_call, ev_bi, ev_isi, ev_lc, ev_mth, ev_rpl, ev_kin, ev_kget, ev_sst, ev_lss, evs_nil, evs_cons, b1_ok, b2_ok, bs_ok, bcons_ok, band_t, band_f, band_b, bor_t, bor_f, bor_b, b3_ok, dNot_b, dNeg_i, prt_f, prt_t, blc_ok, bit_ok, dTup_ok, dLst_ok, add_ii, sub_ii, mul_l, mul_r, div_ii, mod_ii, add_tt, add_ll, mul_t1i, mul_l1i, lt_ii, le_ii, gt_ii, ge_ii, chn_le, is_bb, isn_bb, is_nn, is_in, isn_nn, isn_in, is_on, isn_on, deq_nn, deq_ni, deq_in, deq_oi, deq_oo, sh_oI, oI_s, oI_n, eq_ok, ne_ok, in_tup, nin_tup, in_lst, nin_lst, sh_int, sh_bl, sh_non, sh_str, sh_ints, deq_ii, deq_bb, deq_ss, deq_tt, deq_ll, deqL_nil, deqL_cons, deqL_nc, deqL_cn, deqL_ints, deqL_pairs, deqL_rows, deq_rr, deq_pp, get_0, get_s, ix_t0, ix_t1, ix_t2, ix_t3, ix_t4, ix_t5, ix_t6, ix_l0, ix_l1, ix_l2, ix_l3, ix_l4, ix_l5, ix_lb, ix_tb, dCut_t, dCut_l, rev_t, rev_l, even_t, odd_t, even_l, odd_l, len_t, len_l, int_b, int_i, tuple_t, tuple_l, list_t, list_l, abs_i, sum_t, sum_l, max_2, min_2, max_3, min_3, all_l, isi_ii, isi_ib, isi_is, isi_it, isi_il, isi_bi, isi_bb, isi_bt, isi_bs, isi_tt, isi_tl, isi_ti, isi_ts, isi_ll, isi_lt, isi_li, isi_ls, isi_ss, isi_si, isi_st, isi_sb, it_t, it_l, it_r1, it_r2, it_et, it_el, it_ztt, it_zll, it_ztl, it_zlt, lcFn_1, lcFn_2, cdR_t, cdR_f, cdR_b, xs_nil, xs_set, xs_own, xs_unp, xs_app, xs_ext, xs_put, kExt_ok, kPut_last, xs_frz, xs_pas, xs_ret, xs_ife, xs_for, kSet_ok, kOwn_ok, kUnp_t, kUnp_l, kApp_ok, kRet_ok, kIf_t, kIf_f, kSeq_n, kSeq_r, kFor_ok, forFn_1, forFn_2, setAll_n, setAll_c, fin_r, fin_n, wipe_n, wipe_c, go_nil, go_cons, kGo_n, kGo_r, List.set_cons_zero, List.set_cons_succ, List.cons_append, List.nil_append, List.length_cons, List.length_nil, List.all_cons, List.all_nil, Bool.and_true, Bool.true_and, Bool.and_false, Bool.false_and, Bool.or_true, Bool.true_or, Bool.or_false, Bool.false_or, Bool.not_true, Bool.not_false, decide_true, decide_false, eq_self, Int.cast_ofNat_Int, beq_self_eq_true, s_far_wide, s_far_turn, s_wide_far, s_wide_turn, s_turn_far, s_turn_wide, List.any_cons, List.any_nil, Int.reduceEq, Int.reduceLT, Int.reduceLE, Int.reduceAdd, Int.reduceSub, Int.reduceMul, Int.reduceNeg, Int.reduceToNat, Bool.decide_eq_true, Bool.false_eq_true, ↓reduceIte, List.length_map, bitsM_len, Nat.zero_add, Nat.reduceAdd, call_cf, f__law_cell_at, h2, ix_li]
  · refine ⟨0, ?_⟩
    have h2 : decide (k < (ns.length : Int)) = false := decide_eq_false h
    simp -implicitDefEqProofs (disch := first | exact sh_int | assumption | omega | (simp -implicitDefEqProofs only [List.length_cons, List.length_nil, List.length_map, List.length_append, List.length_reverse, List.length_take, List.length_drop, List.length_set, List.length_replicate, bitsM_len, bitsL_len]; omega) | (simp -implicitDefEqProofs only [sh_int, sh_oI, sh8_pairs, sh8_rows, sh8_row, sh9_row, sh9_p, sh_bl, sh_non, sh9t, sh9l, sh8t, sh8l, sh7t, sh7l, sh6t, sh6l, sh5t, sh5l, sh4t, sh4l, sh_ints, sh_str, List.all_cons, List.all_nil, List.all_append, List.all_reverse, Bool.and_true, Bool.and_self]; done) | (simp -implicitDefEqProofs only [sh_int, sh_oI, sh8_pairs, sh8_rows, sh8_row, sh9_row, sh9_p, sh_bl, sh_non, sh9t, sh9l, sh8t, sh8l, sh7t, sh7l, sh6t, sh6l, sh5t, sh5l, sh4t, sh4l, sh_ints, sh_str, List.all_cons, List.all_nil, List.all_append, List.all_reverse, Bool.and_true, Bool.and_self]; decide +kernel)) only [ev_var, ev_cst, ev_glb, ev_bin, ev_cmp, ev_neg, ev_not, ev_chn, ev_and, ev_or, ev_idx, ev_cut, ev_stp, ev_tup, ev_lst, ev_call, ev_bi, ev_isi, ev_lc, ev_mth, ev_rpl, ev_kin, ev_kget, ev_sst, ev_lss, evs_nil, evs_cons, b1_ok, b2_ok, bs_ok, bcons_ok, band_t, band_f, band_b, bor_t, bor_f, bor_b, b3_ok, dNot_b, dNeg_i, prt_f, prt_t, blc_ok, bit_ok, dTup_ok, dLst_ok, add_ii, sub_ii, mul_l, mul_r, div_ii, mod_ii, add_tt, add_ll, mul_t1i, mul_l1i, lt_ii, le_ii, gt_ii, ge_ii, chn_le, is_bb, isn_bb, is_nn, is_in, isn_nn, isn_in, is_on, isn_on, deq_nn, deq_ni, deq_in, deq_oi, deq_oo, sh_oI, oI_s, oI_n, eq_ok, ne_ok, in_tup, nin_tup, in_lst, nin_lst, sh_int, sh_bl, sh_non, sh_str, sh_ints, deq_ii, deq_bb, deq_ss, deq_tt, deq_ll, deqL_nil, deqL_cons, deqL_nc, deqL_cn, deqL_ints, deqL_pairs, deqL_rows, deq_rr, deq_pp, get_0, get_s, ix_t0, ix_t1, ix_t2, ix_t3, ix_t4, ix_t5, ix_t6, ix_l0, ix_l1, ix_l2, ix_l3, ix_l4, ix_l5, ix_lb, ix_tb, dCut_t, dCut_l, rev_t, rev_l, even_t, odd_t, even_l, odd_l, len_t, len_l, int_b, int_i, tuple_t, tuple_l, list_t, list_l, abs_i, sum_t, sum_l, max_2, min_2, max_3, min_3, all_l, isi_ii, isi_ib, isi_is, isi_it, isi_il, isi_bi, isi_bb, isi_bt, isi_bs, isi_tt, isi_tl, isi_ti, isi_ts, isi_ll, isi_lt, isi_li, isi_ls, isi_ss, isi_si, isi_st, isi_sb, it_t, it_l, it_r1, it_r2, it_et, it_el, it_ztt, it_zll, it_ztl, it_zlt, lcFn_1, lcFn_2, cdR_t, cdR_f, cdR_b, xs_nil, xs_set, xs_own, xs_unp, xs_app, xs_ext, xs_put, kExt_ok, kPut_last, xs_frz, xs_pas, xs_ret, xs_ife, xs_for, kSet_ok, kOwn_ok, kUnp_t, kUnp_l, kApp_ok, kRet_ok, kIf_t, kIf_f, kSeq_n, kSeq_r, kFor_ok, forFn_1, forFn_2, setAll_n, setAll_c, fin_r, fin_n, wipe_n, wipe_c, go_nil, go_cons, kGo_n, kGo_r, List.set_cons_zero, List.set_cons_succ, List.cons_append, List.nil_append, List.length_cons, List.length_nil, List.all_cons, List.all_nil, Bool.and_true, Bool.true_and, Bool.and_false, Bool.false_and, Bool.or_true, Bool.true_or, Bool.or_false, Bool.false_or, Bool.not_true, Bool.not_false, decide_true, decide_false, eq_self, Int.cast_ofNat_Int, beq_self_eq_true, s_far_wide, s_far_turn, s_wide_far, s_wide_turn, s_turn_far, s_turn_wide, List.any_cons, List.any_nil, Int.reduceEq, Int.reduceLT, Int.reduceLE, Int.reduceAdd, Int.reduceSub, Int.reduceMul, Int.reduceNeg, Int.reduceToNat, Bool.decide_eq_true, Bool.false_eq_true, ↓reduceIte, List.length_map, bitsM_len, Nat.zero_add, Nat.reduceAdd, call_cf, f__law_cell_at, h2]
theorem r_mixed {n : Nat} (ns : List Int) (k : Int) (hk : 0 ≤ k) (hk2 : k < 1000000) : ∃ v, run pg (n + 2) "_law_mixed" [.lst (ns.map D.int), .int k] = .ok (.int v) ∧ 0 ≤ v ∧ v < 2147483629 := by
  obtain ⟨v, e⟩ := r_cell (n := n) ns k hk
  have h1 := Int.emod_nonneg ((v + 7919 * k + 1) * 48271) (show (2147483647 : Int) ≠ 0 by decide)
  have h2 := Int.emod_lt_of_pos ((v + 7919 * k + 1) * 48271) (show (0 : Int) < 2147483647 by decide)
  refine ⟨_, (show _ = R.ok (D.int ((((v + 7919 * k + 1) * 48271 % 2147483647) * ((v + 7919 * k + 1) * 48271 % 2147483647) + 7 * ((v + 7919 * k + 1) * 48271 % 2147483647) + k) % 2147483629)) from ?_), Int.emod_nonneg _ (by decide), Int.emod_lt_of_pos _ (by decide)⟩
  rw [run__law_mixed]
  generalize hm : (v + 7919 * k + 1) * 48271 % 2147483647 = m at h1 h2
  simp -implicitDefEqProofs (disch := first | exact sh_int | assumption | omega | (simp -implicitDefEqProofs only [List.length_cons, List.length_nil, List.length_map, List.length_append, List.length_reverse, List.length_take, List.length_drop, List.length_set, List.length_replicate, bitsM_len, bitsL_len]; omega) | (simp -implicitDefEqProofs only [sh_int, sh_oI, sh8_pairs, sh8_rows, sh8_row, sh9_row, sh9_p, sh_bl, sh_non, sh9t, sh9l, sh8t, sh8l, sh7t, sh7l, sh6t, sh6l, sh5t, sh5l, sh4t, sh4l, sh_ints, sh_str, List.all_cons, List.all_nil, List.all_append, List.all_reverse, Bool.and_true, Bool.and_self]; done) | (simp -implicitDefEqProofs only [sh_int, sh_oI, sh8_pairs, sh8_rows, sh8_row, sh9_row, sh9_p, sh_bl, sh_non, sh9t, sh9l, sh8t, sh8l, sh7t, sh7l, sh6t, sh6l, sh5t, sh5l, sh4t, sh4l, sh_ints, sh_str, List.all_cons, List.all_nil, List.all_append, List.all_reverse, Bool.and_true, Bool.and_self]; decide +kernel)) only [ev_var, ev_cst, ev_glb, ev_bin, ev_cmp, ev_neg, ev_not, ev_chn, ev_and, ev_or, ev_idx, ev_cut, ev_stp, ev_tup, ev_lst, ev_call, ev_bi, ev_isi, ev_lc, ev_mth, ev_rpl, ev_kin, ev_kget, ev_sst, ev_lss, evs_nil, evs_cons, b1_ok, b2_ok, bs_ok, bcons_ok, band_t, band_f, band_b, bor_t, bor_f, bor_b, b3_ok, dNot_b, dNeg_i, prt_f, prt_t, blc_ok, bit_ok, dTup_ok, dLst_ok, add_ii, sub_ii, mul_l, mul_r, div_ii, mod_ii, add_tt, add_ll, mul_t1i, mul_l1i, lt_ii, le_ii, gt_ii, ge_ii, chn_le, is_bb, isn_bb, is_nn, is_in, isn_nn, isn_in, is_on, isn_on, deq_nn, deq_ni, deq_in, deq_oi, deq_oo, sh_oI, oI_s, oI_n, eq_ok, ne_ok, in_tup, nin_tup, in_lst, nin_lst, sh_int, sh_bl, sh_non, sh_str, sh_ints, deq_ii, deq_bb, deq_ss, deq_tt, deq_ll, deqL_nil, deqL_cons, deqL_nc, deqL_cn, deqL_ints, deqL_pairs, deqL_rows, deq_rr, deq_pp, get_0, get_s, ix_t0, ix_t1, ix_t2, ix_t3, ix_t4, ix_t5, ix_t6, ix_l0, ix_l1, ix_l2, ix_l3, ix_l4, ix_l5, ix_lb, ix_tb, dCut_t, dCut_l, rev_t, rev_l, even_t, odd_t, even_l, odd_l, len_t, len_l, int_b, int_i, tuple_t, tuple_l, list_t, list_l, abs_i, sum_t, sum_l, max_2, min_2, max_3, min_3, all_l, isi_ii, isi_ib, isi_is, isi_it, isi_il, isi_bi, isi_bb, isi_bt, isi_bs, isi_tt, isi_tl, isi_ti, isi_ts, isi_ll, isi_lt, isi_li, isi_ls, isi_ss, isi_si, isi_st, isi_sb, it_t, it_l, it_r1, it_r2, it_et, it_el, it_ztt, it_zll, it_ztl, it_zlt, lcFn_1, lcFn_2, cdR_t, cdR_f, cdR_b, xs_nil, xs_set, xs_own, xs_unp, xs_app, xs_ext, xs_put, kExt_ok, kPut_last, xs_frz, xs_pas, xs_ret, xs_ife, xs_for, kSet_ok, kOwn_ok, kUnp_t, kUnp_l, kApp_ok, kRet_ok, kIf_t, kIf_f, kSeq_n, kSeq_r, kFor_ok, forFn_1, forFn_2, setAll_n, setAll_c, fin_r, fin_n, wipe_n, wipe_c, go_nil, go_cons, kGo_n, kGo_r, List.set_cons_zero, List.set_cons_succ, List.cons_append, List.nil_append, List.length_cons, List.length_nil, List.all_cons, List.all_nil, Bool.and_true, Bool.true_and, Bool.and_false, Bool.false_and, Bool.or_true, Bool.true_or, Bool.or_false, Bool.false_or, Bool.not_true, Bool.not_false, decide_true, decide_false, eq_self, Int.cast_ofNat_Int, beq_self_eq_true, s_far_wide, s_far_turn, s_wide_far, s_wide_turn, s_turn_far, s_turn_wide, List.any_cons, List.any_nil, Int.reduceEq, Int.reduceLT, Int.reduceLE, Int.reduceAdd, Int.reduceSub, Int.reduceMul, Int.reduceNeg, Int.reduceToNat, Bool.decide_eq_true, Bool.false_eq_true, ↓reduceIte, List.length_map, bitsM_len, Nat.zero_add, Nat.reduceAdd, call_cf, f__law_mixed, e, hm]
theorem r_drawn {n : Nat} (a k : Int) (hk : 0 ≤ k) (hk2 : k < 1000000) : ∃ v, run pg (n + 1) "_law_drawn" [.int a, .int k] = .ok (.int v) ∧ 0 ≤ v ∧ v < 2147483629 := by
  have h1 := Int.emod_nonneg ((a + 104729 * k + 17) * 69621) (show (2147483647 : Int) ≠ 0 by decide)
  have h2 := Int.emod_lt_of_pos ((a + 104729 * k + 17) * 69621) (show (0 : Int) < 2147483647 by decide)
  refine ⟨_, (show _ = R.ok (D.int ((((a + 104729 * k + 17) * 69621 % 2147483647) * ((a + 104729 * k + 17) * 69621 % 2147483647) + 3 * ((a + 104729 * k + 17) * 69621 % 2147483647) + k) % 2147483629)) from ?_), Int.emod_nonneg _ (by decide), Int.emod_lt_of_pos _ (by decide)⟩
  rw [run__law_drawn]
  generalize hm : (a + 104729 * k + 17) * 69621 % 2147483647 = m at h1 h2
  simp -implicitDefEqProofs (disch := first | exact sh_int | assumption | omega | (simp -implicitDefEqProofs only [List.length_cons, List.length_nil, List.length_map, List.length_append, List.length_reverse, List.length_take, List.length_drop, List.length_set, List.length_replicate, bitsM_len, bitsL_len]; omega) | (simp -implicitDefEqProofs only [sh_int, sh_oI, sh8_pairs, sh8_rows, sh8_row, sh9_row, sh9_p, sh_bl, sh_non, sh9t, sh9l, sh8t, sh8l, sh7t, sh7l, sh6t, sh6l, sh5t, sh5l, sh4t, sh4l, sh_ints, sh_str, List.all_cons, List.all_nil, List.all_append, List.all_reverse, Bool.and_true, Bool.and_self]; done) | (simp -implicitDefEqProofs only [sh_int, sh_oI, sh8_pairs, sh8_rows, sh8_row, sh9_row, sh9_p, sh_bl, sh_non, sh9t, sh9l, sh8t, sh8l, sh7t, sh7l, sh6t, sh6l, sh5t, sh5l, sh4t, sh4l, sh_ints, sh_str, List.all_cons, List.all_nil, List.all_append, List.all_reverse, Bool.and_true, Bool.and_self]; decide +kernel)) only [ev_var, ev_cst, ev_glb, ev_bin, ev_cmp, ev_neg, ev_not, ev_chn, ev_and, ev_or, ev_idx, ev_cut, ev_stp, ev_tup, ev_lst, ev_call, ev_bi, ev_isi, ev_lc, ev_mth, ev_rpl, ev_kin, ev_kget, ev_sst, ev_lss, evs_nil, evs_cons, b1_ok, b2_ok, bs_ok, bcons_ok, band_t, band_f, band_b, bor_t, bor_f, bor_b, b3_ok, dNot_b, dNeg_i, prt_f, prt_t, blc_ok, bit_ok, dTup_ok, dLst_ok, add_ii, sub_ii, mul_l, mul_r, div_ii, mod_ii, add_tt, add_ll, mul_t1i, mul_l1i, lt_ii, le_ii, gt_ii, ge_ii, chn_le, is_bb, isn_bb, is_nn, is_in, isn_nn, isn_in, is_on, isn_on, deq_nn, deq_ni, deq_in, deq_oi, deq_oo, sh_oI, oI_s, oI_n, eq_ok, ne_ok, in_tup, nin_tup, in_lst, nin_lst, sh_int, sh_bl, sh_non, sh_str, sh_ints, deq_ii, deq_bb, deq_ss, deq_tt, deq_ll, deqL_nil, deqL_cons, deqL_nc, deqL_cn, deqL_ints, deqL_pairs, deqL_rows, deq_rr, deq_pp, get_0, get_s, ix_t0, ix_t1, ix_t2, ix_t3, ix_t4, ix_t5, ix_t6, ix_l0, ix_l1, ix_l2, ix_l3, ix_l4, ix_l5, ix_lb, ix_tb, dCut_t, dCut_l, rev_t, rev_l, even_t, odd_t, even_l, odd_l, len_t, len_l, int_b, int_i, tuple_t, tuple_l, list_t, list_l, abs_i, sum_t, sum_l, max_2, min_2, max_3, min_3, all_l, isi_ii, isi_ib, isi_is, isi_it, isi_il, isi_bi, isi_bb, isi_bt, isi_bs, isi_tt, isi_tl, isi_ti, isi_ts, isi_ll, isi_lt, isi_li, isi_ls, isi_ss, isi_si, isi_st, isi_sb, it_t, it_l, it_r1, it_r2, it_et, it_el, it_ztt, it_zll, it_ztl, it_zlt, lcFn_1, lcFn_2, cdR_t, cdR_f, cdR_b, xs_nil, xs_set, xs_own, xs_unp, xs_app, xs_ext, xs_put, kExt_ok, kPut_last, xs_frz, xs_pas, xs_ret, xs_ife, xs_for, kSet_ok, kOwn_ok, kUnp_t, kUnp_l, kApp_ok, kRet_ok, kIf_t, kIf_f, kSeq_n, kSeq_r, kFor_ok, forFn_1, forFn_2, setAll_n, setAll_c, fin_r, fin_n, wipe_n, wipe_c, go_nil, go_cons, kGo_n, kGo_r, List.set_cons_zero, List.set_cons_succ, List.cons_append, List.nil_append, List.length_cons, List.length_nil, List.all_cons, List.all_nil, Bool.and_true, Bool.true_and, Bool.and_false, Bool.false_and, Bool.or_true, Bool.true_or, Bool.or_false, Bool.false_or, Bool.not_true, Bool.not_false, decide_true, decide_false, eq_self, Int.cast_ofNat_Int, beq_self_eq_true, s_far_wide, s_far_turn, s_wide_far, s_wide_turn, s_turn_far, s_turn_wide, List.any_cons, List.any_nil, Int.reduceEq, Int.reduceLT, Int.reduceLE, Int.reduceAdd, Int.reduceSub, Int.reduceMul, Int.reduceNeg, Int.reduceToNat, Bool.decide_eq_true, Bool.false_eq_true, ↓reduceIte, List.length_map, bitsM_len, Nat.zero_add, Nat.reduceAdd, call_cf, f__law_drawn, hm]
theorem r_drawnV {n : Nat} (a k : Int) (hk : 0 ≤ k) (hk2 : k < 1000000) : run pg (n + 1) "_law_drawn" [.int a, .int k] = .ok (.int (drawnV a k)) := by
  have h1 := Int.emod_nonneg ((a + 104729 * k + 17) * 69621) (show (2147483647 : Int) ≠ 0 by decide)
  have h2 := Int.emod_lt_of_pos ((a + 104729 * k + 17) * 69621) (show (0 : Int) < 2147483647 by decide)
  rw [run__law_drawn]
  unfold drawnV
  generalize hm : (a + 104729 * k + 17) * 69621 % 2147483647 = m at h1 h2
  simp -implicitDefEqProofs (disch := first | exact sh_int | assumption | omega | (simp -implicitDefEqProofs only [List.length_cons, List.length_nil, List.length_map, List.length_append, List.length_reverse, List.length_take, List.length_drop, List.length_set, List.length_replicate, bitsM_len, bitsL_len]; omega) | (simp -implicitDefEqProofs only [sh_int, sh_oI, sh8_pairs, sh8_rows, sh8_row, sh9_row, sh9_p, sh_bl, sh_non, sh9t, sh9l, sh8t, sh8l, sh7t, sh7l, sh6t, sh6l, sh5t, sh5l, sh4t, sh4l, sh_ints, sh_str, List.all_cons, List.all_nil, List.all_append, List.all_reverse, Bool.and_true, Bool.and_self]; done) | (simp -implicitDefEqProofs only [sh_int, sh_oI, sh8_pairs, sh8_rows, sh8_row, sh9_row, sh9_p, sh_bl, sh_non, sh9t, sh9l, sh8t, sh8l, sh7t, sh7l, sh6t, sh6l, sh5t, sh5l, sh4t, sh4l, sh_ints, sh_str, List.all_cons, List.all_nil, List.all_append, List.all_reverse, Bool.and_true, Bool.and_self]; decide +kernel)) only [ev_var, ev_cst, ev_glb, ev_bin, ev_cmp, ev_neg, ev_not, ev_chn, ev_and, ev_or, ev_idx, ev_cut, ev_stp, ev_tup, ev_lst, ev_call, ev_bi, ev_isi, ev_lc, ev_mth, ev_rpl, ev_kin, ev_kget, ev_sst, ev_lss, evs_nil, evs_cons, b1_ok, b2_ok, bs_ok, bcons_ok, band_t, band_f, band_b, bor_t, bor_f, bor_b, b3_ok, dNot_b, dNeg_i, prt_f, prt_t, blc_ok, bit_ok, dTup_ok, dLst_ok, add_ii, sub_ii, mul_l, mul_r, div_ii, mod_ii, add_tt, add_ll, mul_t1i, mul_l1i, lt_ii, le_ii, gt_ii, ge_ii, chn_le, is_bb, isn_bb, is_nn, is_in, isn_nn, isn_in, is_on, isn_on, deq_nn, deq_ni, deq_in, deq_oi, deq_oo, sh_oI, oI_s, oI_n, eq_ok, ne_ok, in_tup, nin_tup, in_lst, nin_lst, sh_int, sh_bl, sh_non, sh_str, sh_ints, deq_ii, deq_bb, deq_ss, deq_tt, deq_ll, deqL_nil, deqL_cons, deqL_nc, deqL_cn, deqL_ints, deqL_pairs, deqL_rows, deq_rr, deq_pp, get_0, get_s, ix_t0, ix_t1, ix_t2, ix_t3, ix_t4, ix_t5, ix_t6, ix_l0, ix_l1, ix_l2, ix_l3, ix_l4, ix_l5, ix_lb, ix_tb, dCut_t, dCut_l, rev_t, rev_l, even_t, odd_t, even_l, odd_l, len_t, len_l, int_b, int_i, tuple_t, tuple_l, list_t, list_l, abs_i, sum_t, sum_l, max_2, min_2, max_3, min_3, all_l, isi_ii, isi_ib, isi_is, isi_it, isi_il, isi_bi, isi_bb, isi_bt, isi_bs, isi_tt, isi_tl, isi_ti, isi_ts, isi_ll, isi_lt, isi_li, isi_ls, isi_ss, isi_si, isi_st, isi_sb, it_t, it_l, it_r1, it_r2, it_et, it_el, it_ztt, it_zll, it_ztl, it_zlt, lcFn_1, lcFn_2, cdR_t, cdR_f, cdR_b, xs_nil, xs_set, xs_own, xs_unp, xs_app, xs_ext, xs_put, kExt_ok, kPut_last, xs_frz, xs_pas, xs_ret, xs_ife, xs_for, kSet_ok, kOwn_ok, kUnp_t, kUnp_l, kApp_ok, kRet_ok, kIf_t, kIf_f, kSeq_n, kSeq_r, kFor_ok, forFn_1, forFn_2, setAll_n, setAll_c, fin_r, fin_n, wipe_n, wipe_c, go_nil, go_cons, kGo_n, kGo_r, List.set_cons_zero, List.set_cons_succ, List.cons_append, List.nil_append, List.length_cons, List.length_nil, List.all_cons, List.all_nil, Bool.and_true, Bool.true_and, Bool.and_false, Bool.false_and, Bool.or_true, Bool.true_or, Bool.or_false, Bool.false_or, Bool.not_true, Bool.not_false, decide_true, decide_false, eq_self, Int.cast_ofNat_Int, beq_self_eq_true, s_far_wide, s_far_turn, s_wide_far, s_wide_turn, s_turn_far, s_turn_wide, List.any_cons, List.any_nil, Int.reduceEq, Int.reduceLT, Int.reduceLE, Int.reduceAdd, Int.reduceSub, Int.reduceMul, Int.reduceNeg, Int.reduceToNat, Bool.decide_eq_true, Bool.false_eq_true, ↓reduceIte, List.length_map, bitsM_len, Nat.zero_add, Nat.reduceAdd, call_cf, f__law_drawn, hm]
theorem r_lrow {n : Nat} (a most span : Int) (hm : 0 < most) (hm2 : most ≤ 1000) (hs : 0 < span) : run pg (n + 2) "_law_row" [.int a, .int most, .int span] = .ok (.tup ((rowV a most span).map D.int)) := by
  have h1 := Int.emod_nonneg a (show most ≠ 0 by omega)
  have h2 := Int.emod_lt_of_pos a hm
  rw [run__law_row]
  simp -implicitDefEqProofs (disch := first | exact sh_int | assumption | omega | (simp -implicitDefEqProofs only [List.length_cons, List.length_nil, List.length_map, List.length_append, List.length_reverse, List.length_take, List.length_drop, List.length_set, List.length_replicate, bitsM_len, bitsL_len]; omega) | (simp -implicitDefEqProofs only [sh_int, sh_oI, sh8_pairs, sh8_rows, sh8_row, sh9_row, sh9_p, sh_bl, sh_non, sh9t, sh9l, sh8t, sh8l, sh7t, sh7l, sh6t, sh6l, sh5t, sh5l, sh4t, sh4l, sh_ints, sh_str, List.all_cons, List.all_nil, List.all_append, List.all_reverse, Bool.and_true, Bool.and_self]; done) | (simp -implicitDefEqProofs only [sh_int, sh_oI, sh8_pairs, sh8_rows, sh8_row, sh9_row, sh9_p, sh_bl, sh_non, sh9t, sh9l, sh8t, sh8l, sh7t, sh7l, sh6t, sh6l, sh5t, sh5l, sh4t, sh4l, sh_ints, sh_str, List.all_cons, List.all_nil, List.all_append, List.all_reverse, Bool.and_true, Bool.and_self]; decide +kernel)) only [ev_var, ev_cst, ev_glb, ev_bin, ev_cmp, ev_neg, ev_not, ev_chn, ev_and, ev_or, ev_idx, ev_cut, ev_stp, ev_tup, ev_lst, ev_call, ev_bi, ev_isi, ev_lc, ev_mth, ev_rpl, ev_kin, ev_kget, ev_sst, ev_lss, evs_nil, evs_cons, b1_ok, b2_ok, bs_ok, bcons_ok, band_t, band_f, band_b, bor_t, bor_f, bor_b, b3_ok, dNot_b, dNeg_i, prt_f, prt_t, blc_ok, bit_ok, dTup_ok, dLst_ok, add_ii, sub_ii, mul_l, mul_r, div_ii, mod_ii, add_tt, add_ll, mul_t1i, mul_l1i, lt_ii, le_ii, gt_ii, ge_ii, chn_le, is_bb, isn_bb, is_nn, is_in, isn_nn, isn_in, is_on, isn_on, deq_nn, deq_ni, deq_in, deq_oi, deq_oo, sh_oI, oI_s, oI_n, eq_ok, ne_ok, in_tup, nin_tup, in_lst, nin_lst, sh_int, sh_bl, sh_non, sh_str, sh_ints, deq_ii, deq_bb, deq_ss, deq_tt, deq_ll, deqL_nil, deqL_cons, deqL_nc, deqL_cn, deqL_ints, deqL_pairs, deqL_rows, deq_rr, deq_pp, get_0, get_s, ix_t0, ix_t1, ix_t2, ix_t3, ix_t4, ix_t5, ix_t6, ix_l0, ix_l1, ix_l2, ix_l3, ix_l4, ix_l5, ix_lb, ix_tb, dCut_t, dCut_l, rev_t, rev_l, even_t, odd_t, even_l, odd_l, len_t, len_l, int_b, int_i, tuple_t, tuple_l, list_t, list_l, abs_i, sum_t, sum_l, max_2, min_2, max_3, min_3, all_l, isi_ii, isi_ib, isi_is, isi_it, isi_il, isi_bi, isi_bb, isi_bt, isi_bs, isi_tt, isi_tl, isi_ti, isi_ts, isi_ll, isi_lt, isi_li, isi_ls, isi_ss, isi_si, isi_st, isi_sb, it_t, it_l, it_r1, it_r2, it_et, it_el, it_ztt, it_zll, it_ztl, it_zlt, lcFn_1, lcFn_2, cdR_t, cdR_f, cdR_b, xs_nil, xs_set, xs_own, xs_unp, xs_app, xs_ext, xs_put, kExt_ok, kPut_last, xs_frz, xs_pas, xs_ret, xs_ife, xs_for, kSet_ok, kOwn_ok, kUnp_t, kUnp_l, kApp_ok, kRet_ok, kIf_t, kIf_f, kSeq_n, kSeq_r, kFor_ok, forFn_1, forFn_2, setAll_n, setAll_c, fin_r, fin_n, wipe_n, wipe_c, go_nil, go_cons, kGo_n, kGo_r, List.set_cons_zero, List.set_cons_succ, List.cons_append, List.nil_append, List.length_cons, List.length_nil, List.all_cons, List.all_nil, Bool.and_true, Bool.true_and, Bool.and_false, Bool.false_and, Bool.or_true, Bool.true_or, Bool.or_false, Bool.false_or, Bool.not_true, Bool.not_false, decide_true, decide_false, eq_self, Int.cast_ofNat_Int, beq_self_eq_true, s_far_wide, s_far_turn, s_wide_far, s_wide_turn, s_turn_far, s_turn_wide, List.any_cons, List.any_nil, Int.reduceEq, Int.reduceLT, Int.reduceLE, Int.reduceAdd, Int.reduceSub, Int.reduceMul, Int.reduceNeg, Int.reduceToNat, Bool.decide_eq_true, Bool.false_eq_true, ↓reduceIte, List.length_map, bitsM_len, Nat.zero_add, Nat.reduceAdd, call_cf, f__law_row]
  rw [lcS_map (dI fun k => 1 + drawnV a (20 + k) / 4 % span) (by rw [rgL_len]; omega) (fun d hd => by
    obtain ⟨i, hi, rfl⟩ := rgL_mem hd
    have ed := r_drawnV (n := n) a (20 + (0 + i)) (by omega) (by omega)
    simp -implicitDefEqProofs (disch := first | exact sh_int | assumption | omega | (simp -implicitDefEqProofs only [List.length_cons, List.length_nil, List.length_map, List.length_append, List.length_reverse, List.length_take, List.length_drop, List.length_set, List.length_replicate, bitsM_len, bitsL_len]; omega) | (simp -implicitDefEqProofs only [sh_int, sh_oI, sh8_pairs, sh8_rows, sh8_row, sh9_row, sh9_p, sh_bl, sh_non, sh9t, sh9l, sh8t, sh8l, sh7t, sh7l, sh6t, sh6l, sh5t, sh5l, sh4t, sh4l, sh_ints, sh_str, List.all_cons, List.all_nil, List.all_append, List.all_reverse, Bool.and_true, Bool.and_self]; done) | (simp -implicitDefEqProofs only [sh_int, sh_oI, sh8_pairs, sh8_rows, sh8_row, sh9_row, sh9_p, sh_bl, sh_non, sh9t, sh9l, sh8t, sh8l, sh7t, sh7l, sh6t, sh6l, sh5t, sh5l, sh4t, sh4l, sh_ints, sh_str, List.all_cons, List.all_nil, List.all_append, List.all_reverse, Bool.and_true, Bool.and_self]; decide +kernel)) only [ev_var, ev_cst, ev_glb, ev_bin, ev_cmp, ev_neg, ev_not, ev_chn, ev_and, ev_or, ev_idx, ev_cut, ev_stp, ev_tup, ev_lst, ev_call, ev_bi, ev_isi, ev_lc, ev_mth, ev_rpl, ev_kin, ev_kget, ev_sst, ev_lss, evs_nil, evs_cons, b1_ok, b2_ok, bs_ok, bcons_ok, band_t, band_f, band_b, bor_t, bor_f, bor_b, b3_ok, dNot_b, dNeg_i, prt_f, prt_t, blc_ok, bit_ok, dTup_ok, dLst_ok, add_ii, sub_ii, mul_l, mul_r, div_ii, mod_ii, add_tt, add_ll, mul_t1i, mul_l1i, lt_ii, le_ii, gt_ii, ge_ii, chn_le, is_bb, isn_bb, is_nn, is_in, isn_nn, isn_in, is_on, isn_on, deq_nn, deq_ni, deq_in, deq_oi, deq_oo, sh_oI, oI_s, oI_n, eq_ok, ne_ok, in_tup, nin_tup, in_lst, nin_lst, sh_int, sh_bl, sh_non, sh_str, sh_ints, deq_ii, deq_bb, deq_ss, deq_tt, deq_ll, deqL_nil, deqL_cons, deqL_nc, deqL_cn, deqL_ints, deqL_pairs, deqL_rows, deq_rr, deq_pp, get_0, get_s, ix_t0, ix_t1, ix_t2, ix_t3, ix_t4, ix_t5, ix_t6, ix_l0, ix_l1, ix_l2, ix_l3, ix_l4, ix_l5, ix_lb, ix_tb, dCut_t, dCut_l, rev_t, rev_l, even_t, odd_t, even_l, odd_l, len_t, len_l, int_b, int_i, tuple_t, tuple_l, list_t, list_l, abs_i, sum_t, sum_l, max_2, min_2, max_3, min_3, all_l, isi_ii, isi_ib, isi_is, isi_it, isi_il, isi_bi, isi_bb, isi_bt, isi_bs, isi_tt, isi_tl, isi_ti, isi_ts, isi_ll, isi_lt, isi_li, isi_ls, isi_ss, isi_si, isi_st, isi_sb, it_t, it_l, it_r1, it_r2, it_et, it_el, it_ztt, it_zll, it_ztl, it_zlt, lcFn_1, lcFn_2, cdR_t, cdR_f, cdR_b, xs_nil, xs_set, xs_own, xs_unp, xs_app, xs_ext, xs_put, kExt_ok, kPut_last, xs_frz, xs_pas, xs_ret, xs_ife, xs_for, kSet_ok, kOwn_ok, kUnp_t, kUnp_l, kApp_ok, kRet_ok, kIf_t, kIf_f, kSeq_n, kSeq_r, kFor_ok, forFn_1, forFn_2, setAll_n, setAll_c, fin_r, fin_n, wipe_n, wipe_c, go_nil, go_cons, kGo_n, kGo_r, List.set_cons_zero, List.set_cons_succ, List.cons_append, List.nil_append, List.length_cons, List.length_nil, List.all_cons, List.all_nil, Bool.and_true, Bool.true_and, Bool.and_false, Bool.false_and, Bool.or_true, Bool.true_or, Bool.or_false, Bool.false_or, Bool.not_true, Bool.not_false, decide_true, decide_false, eq_self, Int.cast_ofNat_Int, beq_self_eq_true, s_far_wide, s_far_turn, s_wide_far, s_wide_turn, s_turn_far, s_turn_wide, List.any_cons, List.any_nil, Int.reduceEq, Int.reduceLT, Int.reduceLE, Int.reduceAdd, Int.reduceSub, Int.reduceMul, Int.reduceNeg, Int.reduceToNat, Bool.decide_eq_true, Bool.false_eq_true, ↓reduceIte, List.length_map, bitsM_len, Nat.zero_add, Nat.reduceAdd, call_cf, ed, dI]), rg_map]
  simp -implicitDefEqProofs (disch := first | exact sh_int | assumption | omega | (simp -implicitDefEqProofs only [List.length_cons, List.length_nil, List.length_map, List.length_append, List.length_reverse, List.length_take, List.length_drop, List.length_set, List.length_replicate, bitsM_len, bitsL_len]; omega) | (simp -implicitDefEqProofs only [sh_int, sh_oI, sh8_pairs, sh8_rows, sh8_row, sh9_row, sh9_p, sh_bl, sh_non, sh9t, sh9l, sh8t, sh8l, sh7t, sh7l, sh6t, sh6l, sh5t, sh5l, sh4t, sh4l, sh_ints, sh_str, List.all_cons, List.all_nil, List.all_append, List.all_reverse, Bool.and_true, Bool.and_self]; done) | (simp -implicitDefEqProofs only [sh_int, sh_oI, sh8_pairs, sh8_rows, sh8_row, sh9_row, sh9_p, sh_bl, sh_non, sh9t, sh9l, sh8t, sh8l, sh7t, sh7l, sh6t, sh6l, sh5t, sh5l, sh4t, sh4l, sh_ints, sh_str, List.all_cons, List.all_nil, List.all_append, List.all_reverse, Bool.and_true, Bool.and_self]; decide +kernel)) only [ev_var, ev_cst, ev_glb, ev_bin, ev_cmp, ev_neg, ev_not, ev_chn, ev_and, ev_or, ev_idx, ev_cut, ev_stp, ev_tup, ev_lst, ev_call, ev_bi, ev_isi, ev_lc, ev_mth, ev_rpl, ev_kin, ev_kget, ev_sst, ev_lss, evs_nil, evs_cons, b1_ok, b2_ok, bs_ok, bcons_ok, band_t, band_f, band_b, bor_t, bor_f, bor_b, b3_ok, dNot_b, dNeg_i, prt_f, prt_t, blc_ok, bit_ok, dTup_ok, dLst_ok, add_ii, sub_ii, mul_l, mul_r, div_ii, mod_ii, add_tt, add_ll, mul_t1i, mul_l1i, lt_ii, le_ii, gt_ii, ge_ii, chn_le, is_bb, isn_bb, is_nn, is_in, isn_nn, isn_in, is_on, isn_on, deq_nn, deq_ni, deq_in, deq_oi, deq_oo, sh_oI, oI_s, oI_n, eq_ok, ne_ok, in_tup, nin_tup, in_lst, nin_lst, sh_int, sh_bl, sh_non, sh_str, sh_ints, deq_ii, deq_bb, deq_ss, deq_tt, deq_ll, deqL_nil, deqL_cons, deqL_nc, deqL_cn, deqL_ints, deqL_pairs, deqL_rows, deq_rr, deq_pp, get_0, get_s, ix_t0, ix_t1, ix_t2, ix_t3, ix_t4, ix_t5, ix_t6, ix_l0, ix_l1, ix_l2, ix_l3, ix_l4, ix_l5, ix_lb, ix_tb, dCut_t, dCut_l, rev_t, rev_l, even_t, odd_t, even_l, odd_l, len_t, len_l, int_b, int_i, tuple_t, tuple_l, list_t, list_l, abs_i, sum_t, sum_l, max_2, min_2, max_3, min_3, all_l, isi_ii, isi_ib, isi_is, isi_it, isi_il, isi_bi, isi_bb, isi_bt, isi_bs, isi_tt, isi_tl, isi_ti, isi_ts, isi_ll, isi_lt, isi_li, isi_ls, isi_ss, isi_si, isi_st, isi_sb, it_t, it_l, it_r1, it_r2, it_et, it_el, it_ztt, it_zll, it_ztl, it_zlt, lcFn_1, lcFn_2, cdR_t, cdR_f, cdR_b, xs_nil, xs_set, xs_own, xs_unp, xs_app, xs_ext, xs_put, kExt_ok, kPut_last, xs_frz, xs_pas, xs_ret, xs_ife, xs_for, kSet_ok, kOwn_ok, kUnp_t, kUnp_l, kApp_ok, kRet_ok, kIf_t, kIf_f, kSeq_n, kSeq_r, kFor_ok, forFn_1, forFn_2, setAll_n, setAll_c, fin_r, fin_n, wipe_n, wipe_c, go_nil, go_cons, kGo_n, kGo_r, List.set_cons_zero, List.set_cons_succ, List.cons_append, List.nil_append, List.length_cons, List.length_nil, List.all_cons, List.all_nil, Bool.and_true, Bool.true_and, Bool.and_false, Bool.false_and, Bool.or_true, Bool.true_or, Bool.or_false, Bool.false_or, Bool.not_true, Bool.not_false, decide_true, decide_false, eq_self, Int.cast_ofNat_Int, beq_self_eq_true, s_far_wide, s_far_turn, s_wide_far, s_wide_turn, s_turn_far, s_turn_wide, List.any_cons, List.any_nil, Int.reduceEq, Int.reduceLT, Int.reduceLE, Int.reduceAdd, Int.reduceSub, Int.reduceMul, Int.reduceNeg, Int.reduceToNat, Bool.decide_eq_true, Bool.false_eq_true, ↓reduceIte, List.length_map, bitsM_len, Nat.zero_add, Nat.reduceAdd, call_cf]
  rfl
theorem r_times {n : Nat} (row : List Int) (s : Int) (hl : row.length ≤ 1000) : run pg (n + 1) "times_for" [rowD row, .int s] = .ok (rowD (lrnL row s)) := by
  have hsl := (srtI_perm row).length_eq
  rw [run_times_for]
  simp -implicitDefEqProofs (disch := first | exact sh_int | assumption | omega | (simp -implicitDefEqProofs only [List.length_cons, List.length_nil, List.length_map, List.length_append, List.length_reverse, List.length_take, List.length_drop, List.length_set, List.length_replicate, bitsM_len, bitsL_len]; omega) | (simp -implicitDefEqProofs only [sh_int, sh_oI, sh8_pairs, sh8_rows, sh8_row, sh9_row, sh9_p, sh_bl, sh_non, sh9t, sh9l, sh8t, sh8l, sh7t, sh7l, sh6t, sh6l, sh5t, sh5l, sh4t, sh4l, sh_ints, sh_str, List.all_cons, List.all_nil, List.all_append, List.all_reverse, Bool.and_true, Bool.and_self]; done) | (simp -implicitDefEqProofs only [sh_int, sh_oI, sh8_pairs, sh8_rows, sh8_row, sh9_row, sh9_p, sh_bl, sh_non, sh9t, sh9l, sh8t, sh8l, sh7t, sh7l, sh6t, sh6l, sh5t, sh5l, sh4t, sh4l, sh_ints, sh_str, List.all_cons, List.all_nil, List.all_append, List.all_reverse, Bool.and_true, Bool.and_self]; decide +kernel)) only [ev_var, ev_cst, ev_glb, ev_bin, ev_cmp, ev_neg, ev_not, ev_chn, ev_and, ev_or, ev_idx, ev_cut, ev_stp, ev_tup, ev_lst, ev_call, ev_bi, ev_isi, ev_lc, ev_mth, ev_rpl, ev_kin, ev_kget, ev_sst, ev_lss, evs_nil, evs_cons, b1_ok, b2_ok, bs_ok, bcons_ok, band_t, band_f, band_b, bor_t, bor_f, bor_b, b3_ok, dNot_b, dNeg_i, prt_f, prt_t, blc_ok, bit_ok, dTup_ok, dLst_ok, add_ii, sub_ii, mul_l, mul_r, div_ii, mod_ii, add_tt, add_ll, mul_t1i, mul_l1i, lt_ii, le_ii, gt_ii, ge_ii, chn_le, is_bb, isn_bb, is_nn, is_in, isn_nn, isn_in, is_on, isn_on, deq_nn, deq_ni, deq_in, deq_oi, deq_oo, sh_oI, oI_s, oI_n, eq_ok, ne_ok, in_tup, nin_tup, in_lst, nin_lst, sh_int, sh_bl, sh_non, sh_str, sh_ints, deq_ii, deq_bb, deq_ss, deq_tt, deq_ll, deqL_nil, deqL_cons, deqL_nc, deqL_cn, deqL_ints, deqL_pairs, deqL_rows, deq_rr, deq_pp, get_0, get_s, ix_t0, ix_t1, ix_t2, ix_t3, ix_t4, ix_t5, ix_t6, ix_l0, ix_l1, ix_l2, ix_l3, ix_l4, ix_l5, ix_lb, ix_tb, dCut_t, dCut_l, rev_t, rev_l, even_t, odd_t, even_l, odd_l, len_t, len_l, int_b, int_i, tuple_t, tuple_l, list_t, list_l, abs_i, sum_t, sum_l, max_2, min_2, max_3, min_3, all_l, isi_ii, isi_ib, isi_is, isi_it, isi_il, isi_bi, isi_bb, isi_bt, isi_bs, isi_tt, isi_tl, isi_ti, isi_ts, isi_ll, isi_lt, isi_li, isi_ls, isi_ss, isi_si, isi_st, isi_sb, it_t, it_l, it_r1, it_r2, it_et, it_el, it_ztt, it_zll, it_ztl, it_zlt, lcFn_1, lcFn_2, cdR_t, cdR_f, cdR_b, xs_nil, xs_set, xs_own, xs_unp, xs_app, xs_ext, xs_put, kExt_ok, kPut_last, xs_frz, xs_pas, xs_ret, xs_ife, xs_for, kSet_ok, kOwn_ok, kUnp_t, kUnp_l, kApp_ok, kRet_ok, kIf_t, kIf_f, kSeq_n, kSeq_r, kFor_ok, forFn_1, forFn_2, setAll_n, setAll_c, fin_r, fin_n, wipe_n, wipe_c, kGo_n, kGo_r, List.set_cons_zero, List.set_cons_succ, List.cons_append, List.nil_append, List.length_cons, List.length_nil, List.all_cons, List.all_nil, Bool.and_true, Bool.true_and, Bool.and_false, Bool.false_and, Bool.or_true, Bool.true_or, Bool.or_false, Bool.false_or, Bool.not_true, Bool.not_false, decide_true, decide_false, eq_self, Int.cast_ofNat_Int, beq_self_eq_true, s_far_wide, s_far_turn, s_wide_far, s_wide_turn, s_turn_far, s_turn_wide, List.any_cons, List.any_nil, Int.reduceEq, Int.reduceLT, Int.reduceLE, Int.reduceAdd, Int.reduceSub, Int.reduceMul, Int.reduceNeg, Int.reduceToNat, Bool.decide_eq_true, Bool.false_eq_true, ↓reduceIte, List.length_map, bitsM_len, Nat.zero_add, Nat.reduceAdd, call_cf, f_times_for, rowD, sorted_t]
  refine loopP_fin (fun r ρ => ∃ (q acc : List Int) (j3 : Option D), r = q.map D.int ∧ acc ++ tfGo s acc.getLast? q = lrnL row s ∧ acc.length + q.length ≤ 1000 ∧ ρ = [some (.tup (row.map D.int)), some (.int s), some (.tup (acc.map D.int)), j3]) ⟨srtI row, [], none, rfl, rfl, by rw [List.length_nil]; omega, rfl⟩ ?_ ?_
  · rintro d q ρ ⟨q, acc, j3, hr, e, hlen, rfl⟩
    cases q with
    | nil => cases hr
    | cons m q =>
      injection hr with hd hq'
      subst hd hq'
      rw [List.length_cons] at hlen
      by_cases c0 : acc = []
      · subst c0
        simp -implicitDefEqProofs (disch := first | exact sh_int | assumption | omega | (simp -implicitDefEqProofs only [List.length_cons, List.length_nil, List.length_map, List.length_append, List.length_reverse, List.length_take, List.length_drop, List.length_set, List.length_replicate, bitsM_len, bitsL_len]; omega) | (simp -implicitDefEqProofs only [sh_int, sh_oI, sh8_pairs, sh8_rows, sh8_row, sh9_row, sh9_p, sh_bl, sh_non, sh9t, sh9l, sh8t, sh8l, sh7t, sh7l, sh6t, sh6l, sh5t, sh5l, sh4t, sh4l, sh_ints, sh_str, List.all_cons, List.all_nil, List.all_append, List.all_reverse, Bool.and_true, Bool.and_self]; done) | (simp -implicitDefEqProofs only [sh_int, sh_oI, sh8_pairs, sh8_rows, sh8_row, sh9_row, sh9_p, sh_bl, sh_non, sh9t, sh9l, sh8t, sh8l, sh7t, sh7l, sh6t, sh6l, sh5t, sh5l, sh4t, sh4l, sh_ints, sh_str, List.all_cons, List.all_nil, List.all_append, List.all_reverse, Bool.and_true, Bool.and_self]; decide +kernel)) only [ev_var, ev_cst, ev_glb, ev_bin, ev_cmp, ev_neg, ev_not, ev_chn, ev_and, ev_or, ev_idx, ev_cut, ev_stp, ev_tup, ev_lst, ev_call, ev_bi, ev_isi, ev_lc, ev_mth, ev_rpl, ev_kin, ev_kget, ev_sst, ev_lss, evs_nil, evs_cons, b1_ok, b2_ok, bs_ok, bcons_ok, band_t, band_f, band_b, bor_t, bor_f, bor_b, b3_ok, dNot_b, dNeg_i, prt_f, prt_t, blc_ok, bit_ok, dTup_ok, dLst_ok, add_ii, sub_ii, mul_l, mul_r, div_ii, mod_ii, add_tt, add_ll, mul_t1i, mul_l1i, lt_ii, le_ii, gt_ii, ge_ii, chn_le, is_bb, isn_bb, is_nn, is_in, isn_nn, isn_in, is_on, isn_on, deq_nn, deq_ni, deq_in, deq_oi, deq_oo, sh_oI, oI_s, oI_n, eq_ok, ne_ok, in_tup, nin_tup, in_lst, nin_lst, sh_int, sh_bl, sh_non, sh_str, sh_ints, deq_ii, deq_bb, deq_ss, deq_tt, deq_ll, deqL_nil, deqL_cons, deqL_nc, deqL_cn, deqL_ints, deqL_pairs, deqL_rows, deq_rr, deq_pp, get_0, get_s, ix_t0, ix_t1, ix_t2, ix_t3, ix_t4, ix_t5, ix_t6, ix_l0, ix_l1, ix_l2, ix_l3, ix_l4, ix_l5, ix_lb, ix_tb, dCut_t, dCut_l, rev_t, rev_l, even_t, odd_t, even_l, odd_l, len_t, len_l, int_b, int_i, tuple_t, tuple_l, list_t, list_l, abs_i, sum_t, sum_l, max_2, min_2, max_3, min_3, all_l, isi_ii, isi_ib, isi_is, isi_it, isi_il, isi_bi, isi_bb, isi_bt, isi_bs, isi_tt, isi_tl, isi_ti, isi_ts, isi_ll, isi_lt, isi_li, isi_ls, isi_ss, isi_si, isi_st, isi_sb, it_t, it_l, it_r1, it_r2, it_et, it_el, it_ztt, it_zll, it_ztl, it_zlt, lcFn_1, lcFn_2, cdR_t, cdR_f, cdR_b, xs_nil, xs_set, xs_own, xs_unp, xs_app, xs_ext, xs_put, kExt_ok, kPut_last, xs_frz, xs_pas, xs_ret, xs_ife, xs_for, kSet_ok, kOwn_ok, kUnp_t, kUnp_l, kApp_ok, kRet_ok, kIf_t, kIf_f, kSeq_n, kSeq_r, kFor_ok, forFn_1, forFn_2, setAll_n, setAll_c, fin_r, fin_n, wipe_n, wipe_c, go_nil, go_cons, kGo_n, kGo_r, List.set_cons_zero, List.set_cons_succ, List.cons_append, List.nil_append, List.length_cons, List.length_nil, List.all_cons, List.all_nil, Bool.and_true, Bool.true_and, Bool.and_false, Bool.false_and, Bool.or_true, Bool.true_or, Bool.or_false, Bool.false_or, Bool.not_true, Bool.not_false, decide_true, decide_false, eq_self, Int.cast_ofNat_Int, beq_self_eq_true, s_far_wide, s_far_turn, s_wide_far, s_wide_turn, s_turn_far, s_turn_wide, List.any_cons, List.any_nil, Int.reduceEq, Int.reduceLT, Int.reduceLE, Int.reduceAdd, Int.reduceSub, Int.reduceMul, Int.reduceNeg, Int.reduceToNat, Bool.decide_eq_true, Bool.false_eq_true, ↓reduceIte, List.length_map, bitsM_len, Nat.zero_add, Nat.reduceAdd, call_cf]
        refine ⟨_, rfl, q, [m + s], some (.int m), rfl, ?_, by rw [List.length_cons, List.length_nil]; omega, rfl⟩
        rw [← e]
        rfl
      · obtain ⟨pre, z, rfl⟩ : ∃ pre z, acc = pre ++ [z] := ⟨_, _, (List.dropLast_concat_getLast c0).symm⟩
        have hc0 : ¬ (((pre.map D.int ++ [D.int z]).length : Nat) : Int) = 0 := by
          rw [List.length_append, List.length_cons, List.length_nil]
          omega
        rw [List.length_append, List.length_cons, List.length_nil] at hlen
        rw [List.getLast?_concat, tfGo] at e
        by_cases c1 : z + s < m
        · rw [if_pos c1] at e
          simp -implicitDefEqProofs (disch := first | exact sh_int | assumption | omega | (simp -implicitDefEqProofs only [List.length_cons, List.length_nil, List.length_map, List.length_append, List.length_reverse, List.length_take, List.length_drop, List.length_set, List.length_replicate, bitsM_len, bitsL_len]; omega) | (simp -implicitDefEqProofs only [sh_int, sh_oI, sh8_pairs, sh8_rows, sh8_row, sh9_row, sh9_p, sh_bl, sh_non, sh9t, sh9l, sh8t, sh8l, sh7t, sh7l, sh6t, sh6l, sh5t, sh5l, sh4t, sh4l, sh_ints, sh_str, List.all_cons, List.all_nil, List.all_append, List.all_reverse, Bool.and_true, Bool.and_self]; done) | (simp -implicitDefEqProofs only [sh_int, sh_oI, sh8_pairs, sh8_rows, sh8_row, sh9_row, sh9_p, sh_bl, sh_non, sh9t, sh9l, sh8t, sh8l, sh7t, sh7l, sh6t, sh6l, sh5t, sh5l, sh4t, sh4l, sh_ints, sh_str, List.all_cons, List.all_nil, List.all_append, List.all_reverse, Bool.and_true, Bool.and_self]; decide +kernel)) only [ev_var, ev_cst, ev_glb, ev_bin, ev_cmp, ev_neg, ev_not, ev_chn, ev_and, ev_or, ev_idx, ev_cut, ev_stp, ev_tup, ev_lst, ev_call, ev_bi, ev_isi, ev_lc, ev_mth, ev_rpl, ev_kin, ev_kget, ev_sst, ev_lss, evs_nil, evs_cons, b1_ok, b2_ok, bs_ok, bcons_ok, band_t, band_f, band_b, bor_t, bor_f, bor_b, b3_ok, dNot_b, dNeg_i, prt_f, prt_t, blc_ok, bit_ok, dTup_ok, dLst_ok, add_ii, sub_ii, mul_l, mul_r, div_ii, mod_ii, add_tt, add_ll, mul_t1i, mul_l1i, lt_ii, le_ii, gt_ii, ge_ii, chn_le, is_bb, isn_bb, is_nn, is_in, isn_nn, isn_in, is_on, isn_on, deq_nn, deq_ni, deq_in, deq_oi, deq_oo, sh_oI, oI_s, oI_n, eq_ok, ne_ok, in_tup, nin_tup, in_lst, nin_lst, sh_int, sh_bl, sh_non, sh_str, sh_ints, deq_ii, deq_bb, deq_ss, deq_tt, deq_ll, deqL_nil, deqL_cons, deqL_nc, deqL_cn, deqL_ints, deqL_pairs, deqL_rows, deq_rr, deq_pp, get_0, get_s, ix_t0, ix_t1, ix_t2, ix_t3, ix_t4, ix_t5, ix_t6, ix_l0, ix_l1, ix_l2, ix_l3, ix_l4, ix_l5, ix_lb, ix_tb, dCut_t, dCut_l, rev_t, rev_l, even_t, odd_t, even_l, odd_l, len_t, len_l, int_b, int_i, tuple_t, tuple_l, list_t, list_l, abs_i, sum_t, sum_l, max_2, min_2, max_3, min_3, all_l, isi_ii, isi_ib, isi_is, isi_it, isi_il, isi_bi, isi_bb, isi_bt, isi_bs, isi_tt, isi_tl, isi_ti, isi_ts, isi_ll, isi_lt, isi_li, isi_ls, isi_ss, isi_si, isi_st, isi_sb, it_t, it_l, it_r1, it_r2, it_et, it_el, it_ztt, it_zll, it_ztl, it_zlt, lcFn_1, lcFn_2, cdR_t, cdR_f, cdR_b, xs_nil, xs_set, xs_own, xs_unp, xs_app, xs_ext, xs_put, kExt_ok, kPut_last, xs_frz, xs_pas, xs_ret, xs_ife, xs_for, kSet_ok, kOwn_ok, kUnp_t, kUnp_l, kApp_ok, kRet_ok, kIf_t, kIf_f, kSeq_n, kSeq_r, kFor_ok, forFn_1, forFn_2, setAll_n, setAll_c, fin_r, fin_n, wipe_n, wipe_c, go_nil, go_cons, kGo_n, kGo_r, List.set_cons_zero, List.set_cons_succ, List.cons_append, List.nil_append, List.length_cons, List.length_nil, List.all_cons, List.all_nil, Bool.and_true, Bool.true_and, Bool.and_false, Bool.false_and, Bool.or_true, Bool.true_or, Bool.or_false, Bool.false_or, Bool.not_true, Bool.not_false, decide_true, decide_false, eq_self, Int.cast_ofNat_Int, beq_self_eq_true, s_far_wide, s_far_turn, s_wide_far, s_wide_turn, s_turn_far, s_turn_wide, List.any_cons, List.any_nil, Int.reduceEq, Int.reduceLT, Int.reduceLE, Int.reduceAdd, Int.reduceSub, Int.reduceMul, Int.reduceNeg, Int.reduceToNat, Bool.decide_eq_true, Bool.false_eq_true, ↓reduceIte, List.length_map, bitsM_len, Nat.zero_add, Nat.reduceAdd, call_cf, List.map_append, List.map_cons, List.map_nil, hc0, ix_tm, c1]
          refine ⟨_, rfl, q, pre ++ [z] ++ [m + s], some (.int m), rfl, ?_, by simp only [List.length_append, List.length_cons, List.length_nil]; omega, ?_⟩
          · rw [List.getLast?_concat, ← e, List.append_assoc (pre ++ [z])]
            rfl
          · simp only [List.map_append, List.map_cons, List.map_nil]
        · rw [if_neg c1] at e
          simp -implicitDefEqProofs (disch := first | exact sh_int | assumption | omega | (simp -implicitDefEqProofs only [List.length_cons, List.length_nil, List.length_map, List.length_append, List.length_reverse, List.length_take, List.length_drop, List.length_set, List.length_replicate, bitsM_len, bitsL_len]; omega) | (simp -implicitDefEqProofs only [sh_int, sh_oI, sh8_pairs, sh8_rows, sh8_row, sh9_row, sh9_p, sh_bl, sh_non, sh9t, sh9l, sh8t, sh8l, sh7t, sh7l, sh6t, sh6l, sh5t, sh5l, sh4t, sh4l, sh_ints, sh_str, List.all_cons, List.all_nil, List.all_append, List.all_reverse, Bool.and_true, Bool.and_self]; done) | (simp -implicitDefEqProofs only [sh_int, sh_oI, sh8_pairs, sh8_rows, sh8_row, sh9_row, sh9_p, sh_bl, sh_non, sh9t, sh9l, sh8t, sh8l, sh7t, sh7l, sh6t, sh6l, sh5t, sh5l, sh4t, sh4l, sh_ints, sh_str, List.all_cons, List.all_nil, List.all_append, List.all_reverse, Bool.and_true, Bool.and_self]; decide +kernel)) only [ev_var, ev_cst, ev_glb, ev_bin, ev_cmp, ev_neg, ev_not, ev_chn, ev_and, ev_or, ev_idx, ev_cut, ev_stp, ev_tup, ev_lst, ev_call, ev_bi, ev_isi, ev_lc, ev_mth, ev_rpl, ev_kin, ev_kget, ev_sst, ev_lss, evs_nil, evs_cons, b1_ok, b2_ok, bs_ok, bcons_ok, band_t, band_f, band_b, bor_t, bor_f, bor_b, b3_ok, dNot_b, dNeg_i, prt_f, prt_t, blc_ok, bit_ok, dTup_ok, dLst_ok, add_ii, sub_ii, mul_l, mul_r, div_ii, mod_ii, add_tt, add_ll, mul_t1i, mul_l1i, lt_ii, le_ii, gt_ii, ge_ii, chn_le, is_bb, isn_bb, is_nn, is_in, isn_nn, isn_in, is_on, isn_on, deq_nn, deq_ni, deq_in, deq_oi, deq_oo, sh_oI, oI_s, oI_n, eq_ok, ne_ok, in_tup, nin_tup, in_lst, nin_lst, sh_int, sh_bl, sh_non, sh_str, sh_ints, deq_ii, deq_bb, deq_ss, deq_tt, deq_ll, deqL_nil, deqL_cons, deqL_nc, deqL_cn, deqL_ints, deqL_pairs, deqL_rows, deq_rr, deq_pp, get_0, get_s, ix_t0, ix_t1, ix_t2, ix_t3, ix_t4, ix_t5, ix_t6, ix_l0, ix_l1, ix_l2, ix_l3, ix_l4, ix_l5, ix_lb, ix_tb, dCut_t, dCut_l, rev_t, rev_l, even_t, odd_t, even_l, odd_l, len_t, len_l, int_b, int_i, tuple_t, tuple_l, list_t, list_l, abs_i, sum_t, sum_l, max_2, min_2, max_3, min_3, all_l, isi_ii, isi_ib, isi_is, isi_it, isi_il, isi_bi, isi_bb, isi_bt, isi_bs, isi_tt, isi_tl, isi_ti, isi_ts, isi_ll, isi_lt, isi_li, isi_ls, isi_ss, isi_si, isi_st, isi_sb, it_t, it_l, it_r1, it_r2, it_et, it_el, it_ztt, it_zll, it_ztl, it_zlt, lcFn_1, lcFn_2, cdR_t, cdR_f, cdR_b, xs_nil, xs_set, xs_own, xs_unp, xs_app, xs_ext, xs_put, kExt_ok, kPut_last, xs_frz, xs_pas, xs_ret, xs_ife, xs_for, kSet_ok, kOwn_ok, kUnp_t, kUnp_l, kApp_ok, kRet_ok, kIf_t, kIf_f, kSeq_n, kSeq_r, kFor_ok, forFn_1, forFn_2, setAll_n, setAll_c, fin_r, fin_n, wipe_n, wipe_c, go_nil, go_cons, kGo_n, kGo_r, List.set_cons_zero, List.set_cons_succ, List.cons_append, List.nil_append, List.length_cons, List.length_nil, List.all_cons, List.all_nil, Bool.and_true, Bool.true_and, Bool.and_false, Bool.false_and, Bool.or_true, Bool.true_or, Bool.or_false, Bool.false_or, Bool.not_true, Bool.not_false, decide_true, decide_false, eq_self, Int.cast_ofNat_Int, beq_self_eq_true, s_far_wide, s_far_turn, s_wide_far, s_wide_turn, s_turn_far, s_turn_wide, List.any_cons, List.any_nil, Int.reduceEq, Int.reduceLT, Int.reduceLE, Int.reduceAdd, Int.reduceSub, Int.reduceMul, Int.reduceNeg, Int.reduceToNat, Bool.decide_eq_true, Bool.false_eq_true, ↓reduceIte, List.length_map, bitsM_len, Nat.zero_add, Nat.reduceAdd, call_cf, List.map_append, List.map_cons, List.map_nil, hc0, ix_tm, c1]
          refine ⟨_, rfl, q, pre ++ [z], some (.int m), rfl, ?_, by simp only [List.length_append, List.length_cons, List.length_nil]; omega, ?_⟩
          · rw [List.getLast?_concat]
            exact e
          · simp only [List.map_append, List.map_cons, List.map_nil]
  · rintro ρ ⟨q, acc, j3, hr, e, hlen, rfl⟩
    cases q with
    | cons m q => cases hr
    | nil =>
      have e' : acc = lrnL row s := by rw [← e, show tfGo s acc.getLast? [] = [] by cases acc.getLast? <;> rfl, List.append_nil]
      simp -implicitDefEqProofs (disch := first | exact sh_int | assumption | omega | (simp -implicitDefEqProofs only [List.length_cons, List.length_nil, List.length_map, List.length_append, List.length_reverse, List.length_take, List.length_drop, List.length_set, List.length_replicate, bitsM_len, bitsL_len]; omega) | (simp -implicitDefEqProofs only [sh_int, sh_oI, sh8_pairs, sh8_rows, sh8_row, sh9_row, sh9_p, sh_bl, sh_non, sh9t, sh9l, sh8t, sh8l, sh7t, sh7l, sh6t, sh6l, sh5t, sh5l, sh4t, sh4l, sh_ints, sh_str, List.all_cons, List.all_nil, List.all_append, List.all_reverse, Bool.and_true, Bool.and_self]; done) | (simp -implicitDefEqProofs only [sh_int, sh_oI, sh8_pairs, sh8_rows, sh8_row, sh9_row, sh9_p, sh_bl, sh_non, sh9t, sh9l, sh8t, sh8l, sh7t, sh7l, sh6t, sh6l, sh5t, sh5l, sh4t, sh4l, sh_ints, sh_str, List.all_cons, List.all_nil, List.all_append, List.all_reverse, Bool.and_true, Bool.and_self]; decide +kernel)) only [ev_var, ev_cst, ev_glb, ev_bin, ev_cmp, ev_neg, ev_not, ev_chn, ev_and, ev_or, ev_idx, ev_cut, ev_stp, ev_tup, ev_lst, ev_call, ev_bi, ev_isi, ev_lc, ev_mth, ev_rpl, ev_kin, ev_kget, ev_sst, ev_lss, evs_nil, evs_cons, b1_ok, b2_ok, bs_ok, bcons_ok, band_t, band_f, band_b, bor_t, bor_f, bor_b, b3_ok, dNot_b, dNeg_i, prt_f, prt_t, blc_ok, bit_ok, dTup_ok, dLst_ok, add_ii, sub_ii, mul_l, mul_r, div_ii, mod_ii, add_tt, add_ll, mul_t1i, mul_l1i, lt_ii, le_ii, gt_ii, ge_ii, chn_le, is_bb, isn_bb, is_nn, is_in, isn_nn, isn_in, is_on, isn_on, deq_nn, deq_ni, deq_in, deq_oi, deq_oo, sh_oI, oI_s, oI_n, eq_ok, ne_ok, in_tup, nin_tup, in_lst, nin_lst, sh_int, sh_bl, sh_non, sh_str, sh_ints, deq_ii, deq_bb, deq_ss, deq_tt, deq_ll, deqL_nil, deqL_cons, deqL_nc, deqL_cn, deqL_ints, deqL_pairs, deqL_rows, deq_rr, deq_pp, get_0, get_s, ix_t0, ix_t1, ix_t2, ix_t3, ix_t4, ix_t5, ix_t6, ix_l0, ix_l1, ix_l2, ix_l3, ix_l4, ix_l5, ix_lb, ix_tb, dCut_t, dCut_l, rev_t, rev_l, even_t, odd_t, even_l, odd_l, len_t, len_l, int_b, int_i, tuple_t, tuple_l, list_t, list_l, abs_i, sum_t, sum_l, max_2, min_2, max_3, min_3, all_l, isi_ii, isi_ib, isi_is, isi_it, isi_il, isi_bi, isi_bb, isi_bt, isi_bs, isi_tt, isi_tl, isi_ti, isi_ts, isi_ll, isi_lt, isi_li, isi_ls, isi_ss, isi_si, isi_st, isi_sb, it_t, it_l, it_r1, it_r2, it_et, it_el, it_ztt, it_zll, it_ztl, it_zlt, lcFn_1, lcFn_2, cdR_t, cdR_f, cdR_b, xs_nil, xs_set, xs_own, xs_unp, xs_app, xs_ext, xs_put, kExt_ok, kPut_last, xs_frz, xs_pas, xs_ret, xs_ife, xs_for, kSet_ok, kOwn_ok, kUnp_t, kUnp_l, kApp_ok, kRet_ok, kIf_t, kIf_f, kSeq_n, kSeq_r, kFor_ok, forFn_1, forFn_2, setAll_n, setAll_c, fin_r, fin_n, wipe_n, wipe_c, go_nil, go_cons, kGo_n, kGo_r, List.set_cons_zero, List.set_cons_succ, List.cons_append, List.nil_append, List.length_cons, List.length_nil, List.all_cons, List.all_nil, Bool.and_true, Bool.true_and, Bool.and_false, Bool.false_and, Bool.or_true, Bool.true_or, Bool.or_false, Bool.false_or, Bool.not_true, Bool.not_false, decide_true, decide_false, eq_self, Int.cast_ofNat_Int, beq_self_eq_true, s_far_wide, s_far_turn, s_wide_far, s_wide_turn, s_turn_far, s_turn_wide, List.any_cons, List.any_nil, Int.reduceEq, Int.reduceLT, Int.reduceLE, Int.reduceAdd, Int.reduceSub, Int.reduceMul, Int.reduceNeg, Int.reduceToNat, Bool.decide_eq_true, Bool.false_eq_true, ↓reduceIte, List.length_map, bitsM_len, Nat.zero_add, Nat.reduceAdd, call_cf]
      rw [e']
theorem r_letter {n : Nat} (T : List Int) (t s : Int) (hT : T.length ≤ 26) (hc : ∃ x ∈ T, x - t ≤ s ∧ t - x ≤ s) : run pg (n + 1) "letter_of" [rowD T, .int t, .int s] = .ok (.str (sN [97 + idxL s t T])) := by
  have gL : oR ((cf n).glb.lookup ("LETTERS" : Str)) = .ok (.str ABC) := rfl
  have go : ∀ (q : List Int) (i : Nat) (d : D) (j3 j4 : Option D), i + q.length ≤ 26 → (∃ x ∈ q, x - t ≤ s ∧ t - x ≤ s) → finish (kSeq (forGo (forFn (cf n) 100000 (.many [3, 4]) [.ife (.cmp .LtE (.bi .abs [.bin .Sub (.var 4) (.var 1)]) (.var 2)) [.ret (.idx (.glb "LETTERS") (.var 3))] []]) (enumL i (q.map D.int)) [some d, some (.int t), some (.int s), j3, j4]) (cf n) 100000 [.ret (.cst (.str ""))]) = .ok (.str (sN [97 + (i + idxL s t q)])) := by
    intro q
    induction q with
    | nil => intro i d j3 j4 _ ⟨_, h, _⟩; exact nomatch h
    | cons m q ih =>
      intro i d j3 j4 hl hx
      rw [List.length_cons] at hl
      rw [List.map_cons, enumL_cons, idxL]
      have hi := ix_abc (i := i) (by omega)
      by_cases c : (if m - t < 0 then -(m - t) else m - t) ≤ s
      · rw [if_pos c]
        simp -implicitDefEqProofs (disch := first | exact sh_int | assumption | omega | (simp -implicitDefEqProofs only [List.length_cons, List.length_nil, List.length_map, List.length_append, List.length_reverse, List.length_take, List.length_drop, List.length_set, List.length_replicate, bitsM_len, bitsL_len]; omega) | (simp -implicitDefEqProofs only [sh_int, sh_oI, sh8_pairs, sh8_rows, sh8_row, sh9_row, sh9_p, sh_bl, sh_non, sh9t, sh9l, sh8t, sh8l, sh7t, sh7l, sh6t, sh6l, sh5t, sh5l, sh4t, sh4l, sh_ints, sh_str, List.all_cons, List.all_nil, List.all_append, List.all_reverse, Bool.and_true, Bool.and_self]; done) | (simp -implicitDefEqProofs only [sh_int, sh_oI, sh8_pairs, sh8_rows, sh8_row, sh9_row, sh9_p, sh_bl, sh_non, sh9t, sh9l, sh8t, sh8l, sh7t, sh7l, sh6t, sh6l, sh5t, sh5l, sh4t, sh4l, sh_ints, sh_str, List.all_cons, List.all_nil, List.all_append, List.all_reverse, Bool.and_true, Bool.and_self]; decide +kernel)) only [ev_var, ev_cst, ev_glb, ev_bin, ev_cmp, ev_neg, ev_not, ev_chn, ev_and, ev_or, ev_idx, ev_cut, ev_stp, ev_tup, ev_lst, ev_call, ev_bi, ev_isi, ev_lc, ev_mth, ev_rpl, ev_kin, ev_kget, ev_sst, ev_lss, evs_nil, evs_cons, b1_ok, b2_ok, bs_ok, bcons_ok, band_t, band_f, band_b, bor_t, bor_f, bor_b, b3_ok, dNot_b, dNeg_i, prt_f, prt_t, blc_ok, bit_ok, dTup_ok, dLst_ok, add_ii, sub_ii, mul_l, mul_r, div_ii, mod_ii, add_tt, add_ll, mul_t1i, mul_l1i, lt_ii, le_ii, gt_ii, ge_ii, chn_le, is_bb, isn_bb, is_nn, is_in, isn_nn, isn_in, is_on, isn_on, deq_nn, deq_ni, deq_in, deq_oi, deq_oo, sh_oI, oI_s, oI_n, eq_ok, ne_ok, in_tup, nin_tup, in_lst, nin_lst, sh_int, sh_bl, sh_non, sh_str, sh_ints, deq_ii, deq_bb, deq_ss, deq_tt, deq_ll, deqL_nil, deqL_cons, deqL_nc, deqL_cn, deqL_ints, deqL_pairs, deqL_rows, deq_rr, deq_pp, get_0, get_s, ix_t0, ix_t1, ix_t2, ix_t3, ix_t4, ix_t5, ix_t6, ix_l0, ix_l1, ix_l2, ix_l3, ix_l4, ix_l5, ix_lb, ix_tb, dCut_t, dCut_l, rev_t, rev_l, even_t, odd_t, even_l, odd_l, len_t, len_l, int_b, int_i, tuple_t, tuple_l, list_t, list_l, abs_i, sum_t, sum_l, max_2, min_2, max_3, min_3, all_l, isi_ii, isi_ib, isi_is, isi_it, isi_il, isi_bi, isi_bb, isi_bt, isi_bs, isi_tt, isi_tl, isi_ti, isi_ts, isi_ll, isi_lt, isi_li, isi_ls, isi_ss, isi_si, isi_st, isi_sb, it_t, it_l, it_r1, it_r2, it_et, it_el, it_ztt, it_zll, it_ztl, it_zlt, lcFn_1, lcFn_2, cdR_t, cdR_f, cdR_b, xs_nil, xs_set, xs_own, xs_unp, xs_app, xs_ext, xs_put, kExt_ok, kPut_last, xs_frz, xs_pas, xs_ret, xs_ife, xs_for, kSet_ok, kOwn_ok, kUnp_t, kUnp_l, kApp_ok, kRet_ok, kIf_t, kIf_f, kSeq_n, kSeq_r, kFor_ok, forFn_1, forFn_2, setAll_n, setAll_c, fin_r, fin_n, wipe_n, wipe_c, go_nil, go_cons, kGo_n, kGo_r, List.set_cons_zero, List.set_cons_succ, List.cons_append, List.nil_append, List.length_cons, List.length_nil, List.all_cons, List.all_nil, Bool.and_true, Bool.true_and, Bool.and_false, Bool.false_and, Bool.or_true, Bool.true_or, Bool.or_false, Bool.false_or, Bool.not_true, Bool.not_false, decide_true, decide_false, eq_self, Int.cast_ofNat_Int, beq_self_eq_true, s_far_wide, s_far_turn, s_wide_far, s_wide_turn, s_turn_far, s_turn_wide, List.any_cons, List.any_nil, Int.reduceEq, Int.reduceLT, Int.reduceLE, Int.reduceAdd, Int.reduceSub, Int.reduceMul, Int.reduceNeg, Int.reduceToNat, Bool.decide_eq_true, Bool.false_eq_true, ↓reduceIte, List.length_map, bitsM_len, Nat.zero_add, Nat.reduceAdd, call_cf, gL, c, hi]
        rfl
      · rw [if_neg c, show i + (idxL s t q + 1) = i + 1 + idxL s t q by omega, ← ih (i + 1) d (some (.int i)) (some (.int m)) (by omega) (by
          obtain ⟨x, hx, g⟩ := hx
          rcases List.mem_cons.mp hx with rfl | hx
          · exfalso
            split at c <;> omega
          · exact ⟨x, hx, g⟩)]
        simp -implicitDefEqProofs (disch := first | exact sh_int | assumption | omega | (simp -implicitDefEqProofs only [List.length_cons, List.length_nil, List.length_map, List.length_append, List.length_reverse, List.length_take, List.length_drop, List.length_set, List.length_replicate, bitsM_len, bitsL_len]; omega) | (simp -implicitDefEqProofs only [sh_int, sh_oI, sh8_pairs, sh8_rows, sh8_row, sh9_row, sh9_p, sh_bl, sh_non, sh9t, sh9l, sh8t, sh8l, sh7t, sh7l, sh6t, sh6l, sh5t, sh5l, sh4t, sh4l, sh_ints, sh_str, List.all_cons, List.all_nil, List.all_append, List.all_reverse, Bool.and_true, Bool.and_self]; done) | (simp -implicitDefEqProofs only [sh_int, sh_oI, sh8_pairs, sh8_rows, sh8_row, sh9_row, sh9_p, sh_bl, sh_non, sh9t, sh9l, sh8t, sh8l, sh7t, sh7l, sh6t, sh6l, sh5t, sh5l, sh4t, sh4l, sh_ints, sh_str, List.all_cons, List.all_nil, List.all_append, List.all_reverse, Bool.and_true, Bool.and_self]; decide +kernel)) only [ev_var, ev_cst, ev_glb, ev_bin, ev_cmp, ev_neg, ev_not, ev_chn, ev_and, ev_or, ev_idx, ev_cut, ev_stp, ev_tup, ev_lst, ev_call, ev_bi, ev_isi, ev_lc, ev_mth, ev_rpl, ev_kin, ev_kget, ev_sst, ev_lss, evs_nil, evs_cons, b1_ok, b2_ok, bs_ok, bcons_ok, band_t, band_f, band_b, bor_t, bor_f, bor_b, b3_ok, dNot_b, dNeg_i, prt_f, prt_t, blc_ok, bit_ok, dTup_ok, dLst_ok, add_ii, sub_ii, mul_l, mul_r, div_ii, mod_ii, add_tt, add_ll, mul_t1i, mul_l1i, lt_ii, le_ii, gt_ii, ge_ii, chn_le, is_bb, isn_bb, is_nn, is_in, isn_nn, isn_in, is_on, isn_on, deq_nn, deq_ni, deq_in, deq_oi, deq_oo, sh_oI, oI_s, oI_n, eq_ok, ne_ok, in_tup, nin_tup, in_lst, nin_lst, sh_int, sh_bl, sh_non, sh_str, sh_ints, deq_ii, deq_bb, deq_ss, deq_tt, deq_ll, deqL_nil, deqL_cons, deqL_nc, deqL_cn, deqL_ints, deqL_pairs, deqL_rows, deq_rr, deq_pp, get_0, get_s, ix_t0, ix_t1, ix_t2, ix_t3, ix_t4, ix_t5, ix_t6, ix_l0, ix_l1, ix_l2, ix_l3, ix_l4, ix_l5, ix_lb, ix_tb, dCut_t, dCut_l, rev_t, rev_l, even_t, odd_t, even_l, odd_l, len_t, len_l, int_b, int_i, tuple_t, tuple_l, list_t, list_l, abs_i, sum_t, sum_l, max_2, min_2, max_3, min_3, all_l, isi_ii, isi_ib, isi_is, isi_it, isi_il, isi_bi, isi_bb, isi_bt, isi_bs, isi_tt, isi_tl, isi_ti, isi_ts, isi_ll, isi_lt, isi_li, isi_ls, isi_ss, isi_si, isi_st, isi_sb, it_t, it_l, it_r1, it_r2, it_et, it_el, it_ztt, it_zll, it_ztl, it_zlt, lcFn_1, lcFn_2, cdR_t, cdR_f, cdR_b, xs_nil, xs_set, xs_own, xs_unp, xs_app, xs_ext, xs_put, kExt_ok, kPut_last, xs_frz, xs_pas, xs_ret, xs_ife, xs_for, kSet_ok, kOwn_ok, kUnp_t, kUnp_l, kApp_ok, kRet_ok, kIf_t, kIf_f, kSeq_n, kSeq_r, kFor_ok, forFn_1, forFn_2, setAll_n, setAll_c, fin_r, fin_n, wipe_n, wipe_c, kGo_n, kGo_r, List.set_cons_zero, List.set_cons_succ, List.cons_append, List.nil_append, List.length_cons, List.length_nil, List.all_cons, List.all_nil, Bool.and_true, Bool.true_and, Bool.and_false, Bool.false_and, Bool.or_true, Bool.true_or, Bool.or_false, Bool.false_or, Bool.not_true, Bool.not_false, decide_true, decide_false, eq_self, Int.cast_ofNat_Int, beq_self_eq_true, s_far_wide, s_far_turn, s_wide_far, s_wide_turn, s_turn_far, s_turn_wide, List.any_cons, List.any_nil, Int.reduceEq, Int.reduceLT, Int.reduceLE, Int.reduceAdd, Int.reduceSub, Int.reduceMul, Int.reduceNeg, Int.reduceToNat, Bool.decide_eq_true, Bool.false_eq_true, ↓reduceIte, List.length_map, bitsM_len, Nat.zero_add, Nat.reduceAdd, call_cf, c, go_cons]
  rw [run_letter_of]
  simp -implicitDefEqProofs (disch := first | exact sh_int | assumption | omega | (simp -implicitDefEqProofs only [List.length_cons, List.length_nil, List.length_map, List.length_append, List.length_reverse, List.length_take, List.length_drop, List.length_set, List.length_replicate, bitsM_len, bitsL_len]; omega) | (simp -implicitDefEqProofs only [sh_int, sh_oI, sh8_pairs, sh8_rows, sh8_row, sh9_row, sh9_p, sh_bl, sh_non, sh9t, sh9l, sh8t, sh8l, sh7t, sh7l, sh6t, sh6l, sh5t, sh5l, sh4t, sh4l, sh_ints, sh_str, List.all_cons, List.all_nil, List.all_append, List.all_reverse, Bool.and_true, Bool.and_self]; done) | (simp -implicitDefEqProofs only [sh_int, sh_oI, sh8_pairs, sh8_rows, sh8_row, sh9_row, sh9_p, sh_bl, sh_non, sh9t, sh9l, sh8t, sh8l, sh7t, sh7l, sh6t, sh6l, sh5t, sh5l, sh4t, sh4l, sh_ints, sh_str, List.all_cons, List.all_nil, List.all_append, List.all_reverse, Bool.and_true, Bool.and_self]; decide +kernel)) only [ev_var, ev_cst, ev_glb, ev_bin, ev_cmp, ev_neg, ev_not, ev_chn, ev_and, ev_or, ev_idx, ev_cut, ev_stp, ev_tup, ev_lst, ev_call, ev_bi, ev_isi, ev_lc, ev_mth, ev_rpl, ev_kin, ev_kget, ev_sst, ev_lss, evs_nil, evs_cons, b1_ok, b2_ok, bs_ok, bcons_ok, band_t, band_f, band_b, bor_t, bor_f, bor_b, b3_ok, dNot_b, dNeg_i, prt_f, prt_t, blc_ok, bit_ok, dTup_ok, dLst_ok, add_ii, sub_ii, mul_l, mul_r, div_ii, mod_ii, add_tt, add_ll, mul_t1i, mul_l1i, lt_ii, le_ii, gt_ii, ge_ii, chn_le, is_bb, isn_bb, is_nn, is_in, isn_nn, isn_in, is_on, isn_on, deq_nn, deq_ni, deq_in, deq_oi, deq_oo, sh_oI, oI_s, oI_n, eq_ok, ne_ok, in_tup, nin_tup, in_lst, nin_lst, sh_int, sh_bl, sh_non, sh_str, sh_ints, deq_ii, deq_bb, deq_ss, deq_tt, deq_ll, deqL_nil, deqL_cons, deqL_nc, deqL_cn, deqL_ints, deqL_pairs, deqL_rows, deq_rr, deq_pp, get_0, get_s, ix_t0, ix_t1, ix_t2, ix_t3, ix_t4, ix_t5, ix_t6, ix_l0, ix_l1, ix_l2, ix_l3, ix_l4, ix_l5, ix_lb, ix_tb, dCut_t, dCut_l, rev_t, rev_l, even_t, odd_t, even_l, odd_l, len_t, len_l, int_b, int_i, tuple_t, tuple_l, list_t, list_l, abs_i, sum_t, sum_l, max_2, min_2, max_3, min_3, all_l, isi_ii, isi_ib, isi_is, isi_it, isi_il, isi_bi, isi_bb, isi_bt, isi_bs, isi_tt, isi_tl, isi_ti, isi_ts, isi_ll, isi_lt, isi_li, isi_ls, isi_ss, isi_si, isi_st, isi_sb, it_t, it_l, it_r1, it_r2, it_et, it_el, it_ztt, it_zll, it_ztl, it_zlt, lcFn_1, lcFn_2, cdR_t, cdR_f, cdR_b, xs_nil, xs_set, xs_own, xs_unp, xs_app, xs_ext, xs_put, kExt_ok, kPut_last, xs_frz, xs_pas, xs_ret, xs_ife, xs_for, kSet_ok, kOwn_ok, kUnp_t, kUnp_l, kApp_ok, kRet_ok, kIf_t, kIf_f, kSeq_n, kSeq_r, kFor_ok, forFn_1, forFn_2, setAll_n, setAll_c, fin_r, fin_n, wipe_n, wipe_c, kGo_n, kGo_r, List.set_cons_zero, List.set_cons_succ, List.cons_append, List.nil_append, List.length_cons, List.length_nil, List.all_cons, List.all_nil, Bool.and_true, Bool.true_and, Bool.and_false, Bool.false_and, Bool.or_true, Bool.true_or, Bool.or_false, Bool.false_or, Bool.not_true, Bool.not_false, decide_true, decide_false, eq_self, Int.cast_ofNat_Int, beq_self_eq_true, s_far_wide, s_far_turn, s_wide_far, s_wide_turn, s_turn_far, s_turn_wide, List.any_cons, List.any_nil, Int.reduceEq, Int.reduceLT, Int.reduceLE, Int.reduceAdd, Int.reduceSub, Int.reduceMul, Int.reduceNeg, Int.reduceToNat, Bool.decide_eq_true, Bool.false_eq_true, ↓reduceIte, List.length_map, bitsM_len, Nat.zero_add, Nat.reduceAdd, call_cf, f_letter_of, rowD]
  have := go T 0 (.tup (T.map D.int)) none none (by omega) hc
  rw [Nat.zero_add] at this
  exact this
theorem r_learnt {n : Nat} (row : List Int) (s : Int) (hs : 0 ≤ s) (hr : row.length ≤ 900) (hT : (lrnL row s).length ≤ 26) : run pg (n + 2) "learnt" [rowD row, .int s] = .ok (.tup [rowD (lrnL row s), .str (sN (ltN (row.map fun t => idxL s t (lrnL row s))))]) := by
  have gL : oR ((cf (n + 1)).glb.lookup ("LETTERS" : Str)) = .ok (.str ABC) := rfl
  have e1 := r_times (n := n) row s (by omega)
  have hm := tms_ok hs row
  generalize lrnL row s = T at e1 hT hm
  have hc : ¬ (26 : Int) < ((T.length : Nat) : Int) := by omega
  rw [run_learnt]
  simp -implicitDefEqProofs (disch := first | exact sh_int | assumption | omega | (simp -implicitDefEqProofs only [List.length_cons, List.length_nil, List.length_map, List.length_append, List.length_reverse, List.length_take, List.length_drop, List.length_set, List.length_replicate, bitsM_len, bitsL_len]; omega) | (simp -implicitDefEqProofs only [sh_int, sh_oI, sh8_pairs, sh8_rows, sh8_row, sh9_row, sh9_p, sh_bl, sh_non, sh9t, sh9l, sh8t, sh8l, sh7t, sh7l, sh6t, sh6l, sh5t, sh5l, sh4t, sh4l, sh_ints, sh_str, List.all_cons, List.all_nil, List.all_append, List.all_reverse, Bool.and_true, Bool.and_self]; done) | (simp -implicitDefEqProofs only [sh_int, sh_oI, sh8_pairs, sh8_rows, sh8_row, sh9_row, sh9_p, sh_bl, sh_non, sh9t, sh9l, sh8t, sh8l, sh7t, sh7l, sh6t, sh6l, sh5t, sh5l, sh4t, sh4l, sh_ints, sh_str, List.all_cons, List.all_nil, List.all_append, List.all_reverse, Bool.and_true, Bool.and_self]; decide +kernel)) only [ev_var, ev_cst, ev_glb, ev_bin, ev_cmp, ev_neg, ev_not, ev_chn, ev_and, ev_or, ev_idx, ev_cut, ev_stp, ev_tup, ev_lst, ev_call, ev_bi, ev_isi, ev_lc, ev_mth, ev_rpl, ev_kin, ev_kget, ev_sst, ev_lss, evs_nil, evs_cons, b1_ok, b2_ok, bs_ok, bcons_ok, band_t, band_f, band_b, bor_t, bor_f, bor_b, b3_ok, dNot_b, dNeg_i, prt_f, prt_t, blc_ok, bit_ok, dTup_ok, dLst_ok, add_ii, sub_ii, mul_l, mul_r, div_ii, mod_ii, add_tt, add_ll, mul_t1i, mul_l1i, lt_ii, le_ii, gt_ii, ge_ii, chn_le, is_bb, isn_bb, is_nn, is_in, isn_nn, isn_in, is_on, isn_on, deq_nn, deq_ni, deq_in, deq_oi, deq_oo, sh_oI, oI_s, oI_n, eq_ok, ne_ok, in_tup, nin_tup, in_lst, nin_lst, sh_int, sh_bl, sh_non, sh_str, sh_ints, deq_ii, deq_bb, deq_ss, deq_tt, deq_ll, deqL_nil, deqL_cons, deqL_nc, deqL_cn, deqL_ints, deqL_pairs, deqL_rows, deq_rr, deq_pp, get_0, get_s, ix_t0, ix_t1, ix_t2, ix_t3, ix_t4, ix_t5, ix_t6, ix_l0, ix_l1, ix_l2, ix_l3, ix_l4, ix_l5, ix_lb, ix_tb, dCut_t, dCut_l, rev_t, rev_l, even_t, odd_t, even_l, odd_l, len_t, len_l, int_b, int_i, tuple_t, tuple_l, list_t, list_l, abs_i, sum_t, sum_l, max_2, min_2, max_3, min_3, all_l, isi_ii, isi_ib, isi_is, isi_it, isi_il, isi_bi, isi_bb, isi_bt, isi_bs, isi_tt, isi_tl, isi_ti, isi_ts, isi_ll, isi_lt, isi_li, isi_ls, isi_ss, isi_si, isi_st, isi_sb, it_t, it_l, it_r1, it_r2, it_et, it_el, it_ztt, it_zll, it_ztl, it_zlt, lcFn_1, lcFn_2, cdR_t, cdR_f, cdR_b, xs_nil, xs_set, xs_own, xs_unp, xs_app, xs_ext, xs_put, kExt_ok, kPut_last, xs_frz, xs_pas, xs_ret, xs_ife, xs_for, kSet_ok, kOwn_ok, kUnp_t, kUnp_l, kApp_ok, kRet_ok, kIf_t, kIf_f, kSeq_n, kSeq_r, kFor_ok, forFn_1, forFn_2, setAll_n, setAll_c, fin_r, fin_n, wipe_n, wipe_c, kGo_n, kGo_r, List.set_cons_zero, List.set_cons_succ, List.cons_append, List.nil_append, List.length_cons, List.length_nil, List.all_cons, List.all_nil, Bool.and_true, Bool.true_and, Bool.and_false, Bool.false_and, Bool.or_true, Bool.true_or, Bool.or_false, Bool.false_or, Bool.not_true, Bool.not_false, decide_true, decide_false, eq_self, Int.cast_ofNat_Int, beq_self_eq_true, s_far_wide, s_far_turn, s_wide_far, s_wide_turn, s_turn_far, s_turn_wide, List.any_cons, List.any_nil, Int.reduceEq, Int.reduceLT, Int.reduceLE, Int.reduceAdd, Int.reduceSub, Int.reduceMul, Int.reduceNeg, Int.reduceToNat, Bool.decide_eq_true, Bool.false_eq_true, ↓reduceIte, List.length_map, bitsM_len, Nat.zero_add, Nat.reduceAdd, call_cf, f_learnt, e1, gL, len_r, len_abc, hc, it_row]
  rw [lcS_map (gLet s T) (by rw [List.length_map]; omega) (fun d hd => by
    obtain ⟨t, ht, rfl⟩ := List.mem_map.mp hd
    have := r_letter (n := n) T t s hT (hm.cov t ht)
    simp -implicitDefEqProofs (disch := first | exact sh_int | assumption | omega | (simp -implicitDefEqProofs only [List.length_cons, List.length_nil, List.length_map, List.length_append, List.length_reverse, List.length_take, List.length_drop, List.length_set, List.length_replicate, bitsM_len, bitsL_len]; omega) | (simp -implicitDefEqProofs only [sh_int, sh_oI, sh8_pairs, sh8_rows, sh8_row, sh9_row, sh9_p, sh_bl, sh_non, sh9t, sh9l, sh8t, sh8l, sh7t, sh7l, sh6t, sh6l, sh5t, sh5l, sh4t, sh4l, sh_ints, sh_str, List.all_cons, List.all_nil, List.all_append, List.all_reverse, Bool.and_true, Bool.and_self]; done) | (simp -implicitDefEqProofs only [sh_int, sh_oI, sh8_pairs, sh8_rows, sh8_row, sh9_row, sh9_p, sh_bl, sh_non, sh9t, sh9l, sh8t, sh8l, sh7t, sh7l, sh6t, sh6l, sh5t, sh5l, sh4t, sh4l, sh_ints, sh_str, List.all_cons, List.all_nil, List.all_append, List.all_reverse, Bool.and_true, Bool.and_self]; decide +kernel)) only [ev_var, ev_cst, ev_glb, ev_bin, ev_cmp, ev_neg, ev_not, ev_chn, ev_and, ev_or, ev_idx, ev_cut, ev_stp, ev_tup, ev_lst, ev_call, ev_bi, ev_isi, ev_lc, ev_mth, ev_rpl, ev_kin, ev_kget, ev_sst, ev_lss, evs_nil, evs_cons, b1_ok, b2_ok, bs_ok, bcons_ok, band_t, band_f, band_b, bor_t, bor_f, bor_b, b3_ok, dNot_b, dNeg_i, prt_f, prt_t, blc_ok, bit_ok, dTup_ok, dLst_ok, add_ii, sub_ii, mul_l, mul_r, div_ii, mod_ii, add_tt, add_ll, mul_t1i, mul_l1i, lt_ii, le_ii, gt_ii, ge_ii, chn_le, is_bb, isn_bb, is_nn, is_in, isn_nn, isn_in, is_on, isn_on, deq_nn, deq_ni, deq_in, deq_oi, deq_oo, sh_oI, oI_s, oI_n, eq_ok, ne_ok, in_tup, nin_tup, in_lst, nin_lst, sh_int, sh_bl, sh_non, sh_str, sh_ints, deq_ii, deq_bb, deq_ss, deq_tt, deq_ll, deqL_nil, deqL_cons, deqL_nc, deqL_cn, deqL_ints, deqL_pairs, deqL_rows, deq_rr, deq_pp, get_0, get_s, ix_t0, ix_t1, ix_t2, ix_t3, ix_t4, ix_t5, ix_t6, ix_l0, ix_l1, ix_l2, ix_l3, ix_l4, ix_l5, ix_lb, ix_tb, dCut_t, dCut_l, rev_t, rev_l, even_t, odd_t, even_l, odd_l, len_t, len_l, int_b, int_i, tuple_t, tuple_l, list_t, list_l, abs_i, sum_t, sum_l, max_2, min_2, max_3, min_3, all_l, isi_ii, isi_ib, isi_is, isi_it, isi_il, isi_bi, isi_bb, isi_bt, isi_bs, isi_tt, isi_tl, isi_ti, isi_ts, isi_ll, isi_lt, isi_li, isi_ls, isi_ss, isi_si, isi_st, isi_sb, it_t, it_l, it_r1, it_r2, it_et, it_el, it_ztt, it_zll, it_ztl, it_zlt, lcFn_1, lcFn_2, cdR_t, cdR_f, cdR_b, xs_nil, xs_set, xs_own, xs_unp, xs_app, xs_ext, xs_put, kExt_ok, kPut_last, xs_frz, xs_pas, xs_ret, xs_ife, xs_for, kSet_ok, kOwn_ok, kUnp_t, kUnp_l, kApp_ok, kRet_ok, kIf_t, kIf_f, kSeq_n, kSeq_r, kFor_ok, forFn_1, forFn_2, setAll_n, setAll_c, fin_r, fin_n, wipe_n, wipe_c, go_nil, go_cons, kGo_n, kGo_r, List.set_cons_zero, List.set_cons_succ, List.cons_append, List.nil_append, List.length_cons, List.length_nil, List.all_cons, List.all_nil, Bool.and_true, Bool.true_and, Bool.and_false, Bool.false_and, Bool.or_true, Bool.true_or, Bool.or_false, Bool.false_or, Bool.not_true, Bool.not_false, decide_true, decide_false, eq_self, Int.cast_ofNat_Int, beq_self_eq_true, s_far_wide, s_far_turn, s_wide_far, s_wide_turn, s_turn_far, s_turn_wide, List.any_cons, List.any_nil, Int.reduceEq, Int.reduceLT, Int.reduceLE, Int.reduceAdd, Int.reduceSub, Int.reduceMul, Int.reduceNeg, Int.reduceToNat, Bool.decide_eq_true, Bool.false_eq_true, ↓reduceIte, List.length_map, bitsM_len, Nat.zero_add, Nat.reduceAdd, call_cf, this, gLet]), gLet_map]
  simp -implicitDefEqProofs (disch := first | exact sh_int | assumption | omega | (simp -implicitDefEqProofs only [List.length_cons, List.length_nil, List.length_map, List.length_append, List.length_reverse, List.length_take, List.length_drop, List.length_set, List.length_replicate, bitsM_len, bitsL_len]; omega) | (simp -implicitDefEqProofs only [sh_int, sh_oI, sh8_pairs, sh8_rows, sh8_row, sh9_row, sh9_p, sh_bl, sh_non, sh9t, sh9l, sh8t, sh8l, sh7t, sh7l, sh6t, sh6l, sh5t, sh5l, sh4t, sh4l, sh_ints, sh_str, List.all_cons, List.all_nil, List.all_append, List.all_reverse, Bool.and_true, Bool.and_self]; done) | (simp -implicitDefEqProofs only [sh_int, sh_oI, sh8_pairs, sh8_rows, sh8_row, sh9_row, sh9_p, sh_bl, sh_non, sh9t, sh9l, sh8t, sh8l, sh7t, sh7l, sh6t, sh6l, sh5t, sh5l, sh4t, sh4l, sh_ints, sh_str, List.all_cons, List.all_nil, List.all_append, List.all_reverse, Bool.and_true, Bool.and_self]; decide +kernel)) only [ev_var, ev_cst, ev_glb, ev_bin, ev_cmp, ev_neg, ev_not, ev_chn, ev_and, ev_or, ev_idx, ev_cut, ev_stp, ev_tup, ev_lst, ev_call, ev_bi, ev_isi, ev_lc, ev_mth, ev_rpl, ev_kin, ev_kget, ev_sst, ev_lss, evs_nil, evs_cons, b1_ok, b2_ok, bs_ok, bcons_ok, band_t, band_f, band_b, bor_t, bor_f, bor_b, b3_ok, dNot_b, dNeg_i, prt_f, prt_t, blc_ok, bit_ok, dTup_ok, dLst_ok, add_ii, sub_ii, mul_l, mul_r, div_ii, mod_ii, add_tt, add_ll, mul_t1i, mul_l1i, lt_ii, le_ii, gt_ii, ge_ii, chn_le, is_bb, isn_bb, is_nn, is_in, isn_nn, isn_in, is_on, isn_on, deq_nn, deq_ni, deq_in, deq_oi, deq_oo, sh_oI, oI_s, oI_n, eq_ok, ne_ok, in_tup, nin_tup, in_lst, nin_lst, sh_int, sh_bl, sh_non, sh_str, sh_ints, deq_ii, deq_bb, deq_ss, deq_tt, deq_ll, deqL_nil, deqL_cons, deqL_nc, deqL_cn, deqL_ints, deqL_pairs, deqL_rows, deq_rr, deq_pp, get_0, get_s, ix_t0, ix_t1, ix_t2, ix_t3, ix_t4, ix_t5, ix_t6, ix_l0, ix_l1, ix_l2, ix_l3, ix_l4, ix_l5, ix_lb, ix_tb, dCut_t, dCut_l, rev_t, rev_l, even_t, odd_t, even_l, odd_l, len_t, len_l, int_b, int_i, tuple_t, tuple_l, list_t, list_l, abs_i, sum_t, sum_l, max_2, min_2, max_3, min_3, all_l, isi_ii, isi_ib, isi_is, isi_it, isi_il, isi_bi, isi_bb, isi_bt, isi_bs, isi_tt, isi_tl, isi_ti, isi_ts, isi_ll, isi_lt, isi_li, isi_ls, isi_ss, isi_si, isi_st, isi_sb, it_t, it_l, it_r1, it_r2, it_et, it_el, it_ztt, it_zll, it_ztl, it_zlt, lcFn_1, lcFn_2, cdR_t, cdR_f, cdR_b, xs_nil, xs_set, xs_own, xs_unp, xs_app, xs_ext, xs_put, kExt_ok, kPut_last, xs_frz, xs_pas, xs_ret, xs_ife, xs_for, kSet_ok, kOwn_ok, kUnp_t, kUnp_l, kApp_ok, kRet_ok, kIf_t, kIf_f, kSeq_n, kSeq_r, kFor_ok, forFn_1, forFn_2, setAll_n, setAll_c, fin_r, fin_n, wipe_n, wipe_c, kGo_n, kGo_r, List.set_cons_zero, List.set_cons_succ, List.cons_append, List.nil_append, List.length_cons, List.length_nil, List.all_cons, List.all_nil, Bool.and_true, Bool.true_and, Bool.and_false, Bool.false_and, Bool.or_true, Bool.true_or, Bool.or_false, Bool.false_or, Bool.not_true, Bool.not_false, decide_true, decide_false, eq_self, Int.cast_ofNat_Int, beq_self_eq_true, s_far_wide, s_far_turn, s_wide_far, s_wide_turn, s_turn_far, s_turn_wide, List.any_cons, List.any_nil, Int.reduceEq, Int.reduceLT, Int.reduceLE, Int.reduceAdd, Int.reduceSub, Int.reduceMul, Int.reduceNeg, Int.reduceToNat, Bool.decide_eq_true, Bool.false_eq_true, ↓reduceIte, List.length_map, bitsM_len, Nat.zero_add, Nat.reduceAdd, call_cf, join_lets]
theorem r_unl {n : Nat} (T : List Int) (l : List Nat) (hl : ∀ i ∈ l, i < T.length) (hT : T.length ≤ 26) (hp : l.length % 2 = 1) (hb : l.length ≤ 1000) : run pg (n + 1) "unlearnt" [rowD T, .str (sN (ltN l))] = .ok (rowD (l.map fun i => T.getD i 0)) := by
  have gL : oR ((cf n).glb.lookup ("LETTERS" : Str)) = .ok (.str ABC) := rfl
  have hc : ¬ (((l.length : Nat) : Int) % 2 = 0) := by omega
  rw [run_unlearnt]
  simp -implicitDefEqProofs (disch := first | exact sh_int | assumption | omega | (simp -implicitDefEqProofs only [List.length_cons, List.length_nil, List.length_map, List.length_append, List.length_reverse, List.length_take, List.length_drop, List.length_set, List.length_replicate, bitsM_len, bitsL_len]; omega) | (simp -implicitDefEqProofs only [sh_int, sh_oI, sh8_pairs, sh8_rows, sh8_row, sh9_row, sh9_p, sh_bl, sh_non, sh9t, sh9l, sh8t, sh8l, sh7t, sh7l, sh6t, sh6l, sh5t, sh5l, sh4t, sh4l, sh_ints, sh_str, List.all_cons, List.all_nil, List.all_append, List.all_reverse, Bool.and_true, Bool.and_self]; done) | (simp -implicitDefEqProofs only [sh_int, sh_oI, sh8_pairs, sh8_rows, sh8_row, sh9_row, sh9_p, sh_bl, sh_non, sh9t, sh9l, sh8t, sh8l, sh7t, sh7l, sh6t, sh6l, sh5t, sh5l, sh4t, sh4l, sh_ints, sh_str, List.all_cons, List.all_nil, List.all_append, List.all_reverse, Bool.and_true, Bool.and_self]; decide +kernel)) only [ev_var, ev_cst, ev_glb, ev_bin, ev_cmp, ev_neg, ev_not, ev_chn, ev_and, ev_or, ev_idx, ev_cut, ev_stp, ev_tup, ev_lst, ev_call, ev_bi, ev_isi, ev_lc, ev_mth, ev_rpl, ev_kin, ev_kget, ev_sst, ev_lss, evs_nil, evs_cons, b1_ok, b2_ok, bs_ok, bcons_ok, band_t, band_f, band_b, bor_t, bor_f, bor_b, b3_ok, dNot_b, dNeg_i, prt_f, prt_t, blc_ok, bit_ok, dTup_ok, dLst_ok, add_ii, sub_ii, mul_l, mul_r, div_ii, mod_ii, add_tt, add_ll, mul_t1i, mul_l1i, lt_ii, le_ii, gt_ii, ge_ii, chn_le, is_bb, isn_bb, is_nn, is_in, isn_nn, isn_in, is_on, isn_on, deq_nn, deq_ni, deq_in, deq_oi, deq_oo, sh_oI, oI_s, oI_n, eq_ok, ne_ok, in_tup, nin_tup, in_lst, nin_lst, sh_int, sh_bl, sh_non, sh_str, sh_ints, deq_ii, deq_bb, deq_ss, deq_tt, deq_ll, deqL_nil, deqL_cons, deqL_nc, deqL_cn, deqL_ints, deqL_pairs, deqL_rows, deq_rr, deq_pp, get_0, get_s, ix_t0, ix_t1, ix_t2, ix_t3, ix_t4, ix_t5, ix_t6, ix_l0, ix_l1, ix_l2, ix_l3, ix_l4, ix_l5, ix_lb, ix_tb, dCut_t, dCut_l, rev_t, rev_l, even_t, odd_t, even_l, odd_l, len_t, len_l, int_b, int_i, tuple_t, tuple_l, list_t, list_l, abs_i, sum_t, sum_l, max_2, min_2, max_3, min_3, all_l, isi_ii, isi_ib, isi_is, isi_it, isi_il, isi_bi, isi_bb, isi_bt, isi_bs, isi_tt, isi_tl, isi_ti, isi_ts, isi_ll, isi_lt, isi_li, isi_ls, isi_ss, isi_si, isi_st, isi_sb, it_t, it_l, it_r1, it_r2, it_et, it_el, it_ztt, it_zll, it_ztl, it_zlt, lcFn_1, lcFn_2, cdR_t, cdR_f, cdR_b, xs_nil, xs_set, xs_own, xs_unp, xs_app, xs_ext, xs_put, kExt_ok, kPut_last, xs_frz, xs_pas, xs_ret, xs_ife, xs_for, kSet_ok, kOwn_ok, kUnp_t, kUnp_l, kApp_ok, kRet_ok, kIf_t, kIf_f, kSeq_n, kSeq_r, kFor_ok, forFn_1, forFn_2, setAll_n, setAll_c, fin_r, fin_n, wipe_n, wipe_c, kGo_n, kGo_r, List.set_cons_zero, List.set_cons_succ, List.cons_append, List.nil_append, List.length_cons, List.length_nil, List.all_cons, List.all_nil, Bool.and_true, Bool.true_and, Bool.and_false, Bool.false_and, Bool.or_true, Bool.true_or, Bool.or_false, Bool.false_or, Bool.not_true, Bool.not_false, decide_true, decide_false, eq_self, Int.cast_ofNat_Int, beq_self_eq_true, s_far_wide, s_far_turn, s_wide_far, s_wide_turn, s_turn_far, s_turn_wide, List.any_cons, List.any_nil, Int.reduceEq, Int.reduceLT, Int.reduceLE, Int.reduceAdd, Int.reduceSub, Int.reduceMul, Int.reduceNeg, Int.reduceToNat, Bool.decide_eq_true, Bool.false_eq_true, ↓reduceIte, List.length_map, bitsM_len, Nat.zero_add, Nat.reduceAdd, call_cf, f_unlearnt, gL, len_lt, hc, it_lt]
  rw [lcS_map (fun _ => .bl true) (by rw [List.length_map]; omega) (fun d hd => by
    obtain ⟨i, hi, rfl⟩ := List.mem_map.mp hd
    have h1 := hl i hi
    have h2 := in_abc (i := i) (n := T.length) (by omega) hT
    simp -implicitDefEqProofs (disch := first | exact sh_int | assumption | omega | (simp -implicitDefEqProofs only [List.length_cons, List.length_nil, List.length_map, List.length_append, List.length_reverse, List.length_take, List.length_drop, List.length_set, List.length_replicate, bitsM_len, bitsL_len]; omega) | (simp -implicitDefEqProofs only [sh_int, sh_oI, sh8_pairs, sh8_rows, sh8_row, sh9_row, sh9_p, sh_bl, sh_non, sh9t, sh9l, sh8t, sh8l, sh7t, sh7l, sh6t, sh6l, sh5t, sh5l, sh4t, sh4l, sh_ints, sh_str, List.all_cons, List.all_nil, List.all_append, List.all_reverse, Bool.and_true, Bool.and_self]; done) | (simp -implicitDefEqProofs only [sh_int, sh_oI, sh8_pairs, sh8_rows, sh8_row, sh9_row, sh9_p, sh_bl, sh_non, sh9t, sh9l, sh8t, sh8l, sh7t, sh7l, sh6t, sh6l, sh5t, sh5l, sh4t, sh4l, sh_ints, sh_str, List.all_cons, List.all_nil, List.all_append, List.all_reverse, Bool.and_true, Bool.and_self]; decide +kernel)) only [ev_var, ev_cst, ev_glb, ev_bin, ev_cmp, ev_neg, ev_not, ev_chn, ev_and, ev_or, ev_idx, ev_cut, ev_stp, ev_tup, ev_lst, ev_call, ev_bi, ev_isi, ev_lc, ev_mth, ev_rpl, ev_kin, ev_kget, ev_sst, ev_lss, evs_nil, evs_cons, b1_ok, b2_ok, bs_ok, bcons_ok, band_t, band_f, band_b, bor_t, bor_f, bor_b, b3_ok, dNot_b, dNeg_i, prt_f, prt_t, blc_ok, bit_ok, dTup_ok, dLst_ok, add_ii, sub_ii, mul_l, mul_r, div_ii, mod_ii, add_tt, add_ll, mul_t1i, mul_l1i, lt_ii, le_ii, gt_ii, ge_ii, chn_le, is_bb, isn_bb, is_nn, is_in, isn_nn, isn_in, is_on, isn_on, deq_nn, deq_ni, deq_in, deq_oi, deq_oo, sh_oI, oI_s, oI_n, eq_ok, ne_ok, in_tup, nin_tup, in_lst, nin_lst, sh_int, sh_bl, sh_non, sh_str, sh_ints, deq_ii, deq_bb, deq_ss, deq_tt, deq_ll, deqL_nil, deqL_cons, deqL_nc, deqL_cn, deqL_ints, deqL_pairs, deqL_rows, deq_rr, deq_pp, get_0, get_s, ix_t0, ix_t1, ix_t2, ix_t3, ix_t4, ix_t5, ix_t6, ix_l0, ix_l1, ix_l2, ix_l3, ix_l4, ix_l5, ix_lb, ix_tb, dCut_t, dCut_l, rev_t, rev_l, even_t, odd_t, even_l, odd_l, len_t, len_l, int_b, int_i, tuple_t, tuple_l, list_t, list_l, abs_i, sum_t, sum_l, max_2, min_2, max_3, min_3, all_l, isi_ii, isi_ib, isi_is, isi_it, isi_il, isi_bi, isi_bb, isi_bt, isi_bs, isi_tt, isi_tl, isi_ti, isi_ts, isi_ll, isi_lt, isi_li, isi_ls, isi_ss, isi_si, isi_st, isi_sb, it_t, it_l, it_r1, it_r2, it_et, it_el, it_ztt, it_zll, it_ztl, it_zlt, lcFn_1, lcFn_2, cdR_t, cdR_f, cdR_b, xs_nil, xs_set, xs_own, xs_unp, xs_app, xs_ext, xs_put, kExt_ok, kPut_last, xs_frz, xs_pas, xs_ret, xs_ife, xs_for, kSet_ok, kOwn_ok, kUnp_t, kUnp_l, kApp_ok, kRet_ok, kIf_t, kIf_f, kSeq_n, kSeq_r, kFor_ok, forFn_1, forFn_2, setAll_n, setAll_c, fin_r, fin_n, wipe_n, wipe_c, go_nil, go_cons, kGo_n, kGo_r, List.set_cons_zero, List.set_cons_succ, List.cons_append, List.nil_append, List.length_cons, List.length_nil, List.all_cons, List.all_nil, Bool.and_true, Bool.true_and, Bool.and_false, Bool.false_and, Bool.or_true, Bool.true_or, Bool.or_false, Bool.false_or, Bool.not_true, Bool.not_false, decide_true, decide_false, eq_self, Int.cast_ofNat_Int, beq_self_eq_true, s_far_wide, s_far_turn, s_wide_far, s_wide_turn, s_turn_far, s_turn_wide, List.any_cons, List.any_nil, Int.reduceEq, Int.reduceLT, Int.reduceLE, Int.reduceAdd, Int.reduceSub, Int.reduceMul, Int.reduceNeg, Int.reduceToNat, Bool.decide_eq_true, Bool.false_eq_true, ↓reduceIte, List.length_map, bitsM_len, Nat.zero_add, Nat.reduceAdd, call_cf, gL, len_r, cut_abc, h2, h1])]
  have hall : (l.map fun i => D.str (sN [97 + i])).map (fun _ => D.bl true) = (l.map fun _ => true).map D.bl := by
    rw [List.map_map, List.map_map]
    rfl
  have hid : (l.map fun _ => true).all id = true := by
    rw [List.all_map]
    exact List.all_eq_true.mpr fun _ _ => rfl
  rw [hall]
  simp -implicitDefEqProofs (disch := first | exact sh_int | assumption | omega | (simp -implicitDefEqProofs only [List.length_cons, List.length_nil, List.length_map, List.length_append, List.length_reverse, List.length_take, List.length_drop, List.length_set, List.length_replicate, bitsM_len, bitsL_len]; omega) | (simp -implicitDefEqProofs only [sh_int, sh_oI, sh8_pairs, sh8_rows, sh8_row, sh9_row, sh9_p, sh_bl, sh_non, sh9t, sh9l, sh8t, sh8l, sh7t, sh7l, sh6t, sh6l, sh5t, sh5l, sh4t, sh4l, sh_ints, sh_str, List.all_cons, List.all_nil, List.all_append, List.all_reverse, Bool.and_true, Bool.and_self]; done) | (simp -implicitDefEqProofs only [sh_int, sh_oI, sh8_pairs, sh8_rows, sh8_row, sh9_row, sh9_p, sh_bl, sh_non, sh9t, sh9l, sh8t, sh8l, sh7t, sh7l, sh6t, sh6l, sh5t, sh5l, sh4t, sh4l, sh_ints, sh_str, List.all_cons, List.all_nil, List.all_append, List.all_reverse, Bool.and_true, Bool.and_self]; decide +kernel)) only [ev_var, ev_cst, ev_glb, ev_bin, ev_cmp, ev_neg, ev_not, ev_chn, ev_and, ev_or, ev_idx, ev_cut, ev_stp, ev_tup, ev_lst, ev_call, ev_bi, ev_isi, ev_lc, ev_mth, ev_rpl, ev_kin, ev_kget, ev_sst, ev_lss, evs_nil, evs_cons, b1_ok, b2_ok, bs_ok, bcons_ok, band_t, band_f, band_b, bor_t, bor_f, bor_b, b3_ok, dNot_b, dNeg_i, prt_f, prt_t, blc_ok, bit_ok, dTup_ok, dLst_ok, add_ii, sub_ii, mul_l, mul_r, div_ii, mod_ii, add_tt, add_ll, mul_t1i, mul_l1i, lt_ii, le_ii, gt_ii, ge_ii, chn_le, is_bb, isn_bb, is_nn, is_in, isn_nn, isn_in, is_on, isn_on, deq_nn, deq_ni, deq_in, deq_oi, deq_oo, sh_oI, oI_s, oI_n, eq_ok, ne_ok, in_tup, nin_tup, in_lst, nin_lst, sh_int, sh_bl, sh_non, sh_str, sh_ints, deq_ii, deq_bb, deq_ss, deq_tt, deq_ll, deqL_nil, deqL_cons, deqL_nc, deqL_cn, deqL_ints, deqL_pairs, deqL_rows, deq_rr, deq_pp, get_0, get_s, ix_t0, ix_t1, ix_t2, ix_t3, ix_t4, ix_t5, ix_t6, ix_l0, ix_l1, ix_l2, ix_l3, ix_l4, ix_l5, ix_lb, ix_tb, dCut_t, dCut_l, rev_t, rev_l, even_t, odd_t, even_l, odd_l, len_t, len_l, int_b, int_i, tuple_t, tuple_l, list_t, list_l, abs_i, sum_t, sum_l, max_2, min_2, max_3, min_3, all_l, isi_ii, isi_ib, isi_is, isi_it, isi_il, isi_bi, isi_bb, isi_bt, isi_bs, isi_tt, isi_tl, isi_ti, isi_ts, isi_ll, isi_lt, isi_li, isi_ls, isi_ss, isi_si, isi_st, isi_sb, it_t, it_l, it_r1, it_r2, it_et, it_el, it_ztt, it_zll, it_ztl, it_zlt, lcFn_1, lcFn_2, cdR_t, cdR_f, cdR_b, xs_nil, xs_set, xs_own, xs_unp, xs_app, xs_ext, xs_put, kExt_ok, kPut_last, xs_frz, xs_pas, xs_ret, xs_ife, xs_for, kSet_ok, kOwn_ok, kUnp_t, kUnp_l, kApp_ok, kRet_ok, kIf_t, kIf_f, kSeq_n, kSeq_r, kFor_ok, forFn_1, forFn_2, setAll_n, setAll_c, fin_r, fin_n, wipe_n, wipe_c, kGo_n, kGo_r, List.set_cons_zero, List.set_cons_succ, List.cons_append, List.nil_append, List.length_cons, List.length_nil, List.all_cons, List.all_nil, Bool.and_true, Bool.true_and, Bool.and_false, Bool.false_and, Bool.or_true, Bool.true_or, Bool.or_false, Bool.false_or, Bool.not_true, Bool.not_false, decide_true, decide_false, eq_self, Int.cast_ofNat_Int, beq_self_eq_true, s_far_wide, s_far_turn, s_wide_far, s_wide_turn, s_turn_far, s_turn_wide, List.any_cons, List.any_nil, Int.reduceEq, Int.reduceLT, Int.reduceLE, Int.reduceAdd, Int.reduceSub, Int.reduceMul, Int.reduceNeg, Int.reduceToNat, Bool.decide_eq_true, Bool.false_eq_true, ↓reduceIte, List.length_map, bitsM_len, Nat.zero_add, Nat.reduceAdd, call_cf, hid, gL, it_lt]
  rw [lcS_map (gBack T) (by rw [List.length_map]; omega) (fun d hd => by
    obtain ⟨i, hi, rfl⟩ := List.mem_map.mp hd
    have h1 := hl i hi
    have h2 := index_abc (i := i) (by omega)
    have h3 := ix_tn h1
    simp -implicitDefEqProofs (disch := first | exact sh_int | assumption | omega | (simp -implicitDefEqProofs only [List.length_cons, List.length_nil, List.length_map, List.length_append, List.length_reverse, List.length_take, List.length_drop, List.length_set, List.length_replicate, bitsM_len, bitsL_len]; omega) | (simp -implicitDefEqProofs only [sh_int, sh_oI, sh8_pairs, sh8_rows, sh8_row, sh9_row, sh9_p, sh_bl, sh_non, sh9t, sh9l, sh8t, sh8l, sh7t, sh7l, sh6t, sh6l, sh5t, sh5l, sh4t, sh4l, sh_ints, sh_str, List.all_cons, List.all_nil, List.all_append, List.all_reverse, Bool.and_true, Bool.and_self]; done) | (simp -implicitDefEqProofs only [sh_int, sh_oI, sh8_pairs, sh8_rows, sh8_row, sh9_row, sh9_p, sh_bl, sh_non, sh9t, sh9l, sh8t, sh8l, sh7t, sh7l, sh6t, sh6l, sh5t, sh5l, sh4t, sh4l, sh_ints, sh_str, List.all_cons, List.all_nil, List.all_append, List.all_reverse, Bool.and_true, Bool.and_self]; decide +kernel)) only [ev_var, ev_cst, ev_glb, ev_bin, ev_cmp, ev_neg, ev_not, ev_chn, ev_and, ev_or, ev_idx, ev_cut, ev_stp, ev_tup, ev_lst, ev_call, ev_bi, ev_isi, ev_lc, ev_mth, ev_rpl, ev_kin, ev_kget, ev_sst, ev_lss, evs_nil, evs_cons, b1_ok, b2_ok, bs_ok, bcons_ok, band_t, band_f, band_b, bor_t, bor_f, bor_b, b3_ok, dNot_b, dNeg_i, prt_f, prt_t, blc_ok, bit_ok, dTup_ok, dLst_ok, add_ii, sub_ii, mul_l, mul_r, div_ii, mod_ii, add_tt, add_ll, mul_t1i, mul_l1i, lt_ii, le_ii, gt_ii, ge_ii, chn_le, is_bb, isn_bb, is_nn, is_in, isn_nn, isn_in, is_on, isn_on, deq_nn, deq_ni, deq_in, deq_oi, deq_oo, sh_oI, oI_s, oI_n, eq_ok, ne_ok, in_tup, nin_tup, in_lst, nin_lst, sh_int, sh_bl, sh_non, sh_str, sh_ints, deq_ii, deq_bb, deq_ss, deq_tt, deq_ll, deqL_nil, deqL_cons, deqL_nc, deqL_cn, deqL_ints, deqL_pairs, deqL_rows, deq_rr, deq_pp, get_0, get_s, ix_t0, ix_t1, ix_t2, ix_t3, ix_t4, ix_t5, ix_t6, ix_l0, ix_l1, ix_l2, ix_l3, ix_l4, ix_l5, ix_lb, ix_tb, dCut_t, dCut_l, rev_t, rev_l, even_t, odd_t, even_l, odd_l, len_t, len_l, int_b, int_i, tuple_t, tuple_l, list_t, list_l, abs_i, sum_t, sum_l, max_2, min_2, max_3, min_3, all_l, isi_ii, isi_ib, isi_is, isi_it, isi_il, isi_bi, isi_bb, isi_bt, isi_bs, isi_tt, isi_tl, isi_ti, isi_ts, isi_ll, isi_lt, isi_li, isi_ls, isi_ss, isi_si, isi_st, isi_sb, it_t, it_l, it_r1, it_r2, it_et, it_el, it_ztt, it_zll, it_ztl, it_zlt, lcFn_1, lcFn_2, cdR_t, cdR_f, cdR_b, xs_nil, xs_set, xs_own, xs_unp, xs_app, xs_ext, xs_put, kExt_ok, kPut_last, xs_frz, xs_pas, xs_ret, xs_ife, xs_for, kSet_ok, kOwn_ok, kUnp_t, kUnp_l, kApp_ok, kRet_ok, kIf_t, kIf_f, kSeq_n, kSeq_r, kFor_ok, forFn_1, forFn_2, setAll_n, setAll_c, fin_r, fin_n, wipe_n, wipe_c, go_nil, go_cons, kGo_n, kGo_r, List.set_cons_zero, List.set_cons_succ, List.cons_append, List.nil_append, List.length_cons, List.length_nil, List.all_cons, List.all_nil, Bool.and_true, Bool.true_and, Bool.and_false, Bool.false_and, Bool.or_true, Bool.true_or, Bool.or_false, Bool.false_or, Bool.not_true, Bool.not_false, decide_true, decide_false, eq_self, Int.cast_ofNat_Int, beq_self_eq_true, s_far_wide, s_far_turn, s_wide_far, s_wide_turn, s_turn_far, s_turn_wide, List.any_cons, List.any_nil, Int.reduceEq, Int.reduceLT, Int.reduceLE, Int.reduceAdd, Int.reduceSub, Int.reduceMul, Int.reduceNeg, Int.reduceToNat, Bool.decide_eq_true, Bool.false_eq_true, ↓reduceIte, List.length_map, bitsM_len, Nat.zero_add, Nat.reduceAdd, call_cf, gL, h2, rowD, h3, gBack]
    show _ = R.ok (some (D.int (T.getD (97 + i - 97) 0)))
    rw [show 97 + i - 97 = i by omega]), gBack_map]
  simp -implicitDefEqProofs (disch := first | exact sh_int | assumption | omega | (simp -implicitDefEqProofs only [List.length_cons, List.length_nil, List.length_map, List.length_append, List.length_reverse, List.length_take, List.length_drop, List.length_set, List.length_replicate, bitsM_len, bitsL_len]; omega) | (simp -implicitDefEqProofs only [sh_int, sh_oI, sh8_pairs, sh8_rows, sh8_row, sh9_row, sh9_p, sh_bl, sh_non, sh9t, sh9l, sh8t, sh8l, sh7t, sh7l, sh6t, sh6l, sh5t, sh5l, sh4t, sh4l, sh_ints, sh_str, List.all_cons, List.all_nil, List.all_append, List.all_reverse, Bool.and_true, Bool.and_self]; done) | (simp -implicitDefEqProofs only [sh_int, sh_oI, sh8_pairs, sh8_rows, sh8_row, sh9_row, sh9_p, sh_bl, sh_non, sh9t, sh9l, sh8t, sh8l, sh7t, sh7l, sh6t, sh6l, sh5t, sh5l, sh4t, sh4l, sh_ints, sh_str, List.all_cons, List.all_nil, List.all_append, List.all_reverse, Bool.and_true, Bool.and_self]; decide +kernel)) only [ev_var, ev_cst, ev_glb, ev_bin, ev_cmp, ev_neg, ev_not, ev_chn, ev_and, ev_or, ev_idx, ev_cut, ev_stp, ev_tup, ev_lst, ev_call, ev_bi, ev_isi, ev_lc, ev_mth, ev_rpl, ev_kin, ev_kget, ev_sst, ev_lss, evs_nil, evs_cons, b1_ok, b2_ok, bs_ok, bcons_ok, band_t, band_f, band_b, bor_t, bor_f, bor_b, b3_ok, dNot_b, dNeg_i, prt_f, prt_t, blc_ok, bit_ok, dTup_ok, dLst_ok, add_ii, sub_ii, mul_l, mul_r, div_ii, mod_ii, add_tt, add_ll, mul_t1i, mul_l1i, lt_ii, le_ii, gt_ii, ge_ii, chn_le, is_bb, isn_bb, is_nn, is_in, isn_nn, isn_in, is_on, isn_on, deq_nn, deq_ni, deq_in, deq_oi, deq_oo, sh_oI, oI_s, oI_n, eq_ok, ne_ok, in_tup, nin_tup, in_lst, nin_lst, sh_int, sh_bl, sh_non, sh_str, sh_ints, deq_ii, deq_bb, deq_ss, deq_tt, deq_ll, deqL_nil, deqL_cons, deqL_nc, deqL_cn, deqL_ints, deqL_pairs, deqL_rows, deq_rr, deq_pp, get_0, get_s, ix_t0, ix_t1, ix_t2, ix_t3, ix_t4, ix_t5, ix_t6, ix_l0, ix_l1, ix_l2, ix_l3, ix_l4, ix_l5, ix_lb, ix_tb, dCut_t, dCut_l, rev_t, rev_l, even_t, odd_t, even_l, odd_l, len_t, len_l, int_b, int_i, tuple_t, tuple_l, list_t, list_l, abs_i, sum_t, sum_l, max_2, min_2, max_3, min_3, all_l, isi_ii, isi_ib, isi_is, isi_it, isi_il, isi_bi, isi_bb, isi_bt, isi_bs, isi_tt, isi_tl, isi_ti, isi_ts, isi_ll, isi_lt, isi_li, isi_ls, isi_ss, isi_si, isi_st, isi_sb, it_t, it_l, it_r1, it_r2, it_et, it_el, it_ztt, it_zll, it_ztl, it_zlt, lcFn_1, lcFn_2, cdR_t, cdR_f, cdR_b, xs_nil, xs_set, xs_own, xs_unp, xs_app, xs_ext, xs_put, kExt_ok, kPut_last, xs_frz, xs_pas, xs_ret, xs_ife, xs_for, kSet_ok, kOwn_ok, kUnp_t, kUnp_l, kApp_ok, kRet_ok, kIf_t, kIf_f, kSeq_n, kSeq_r, kFor_ok, forFn_1, forFn_2, setAll_n, setAll_c, fin_r, fin_n, wipe_n, wipe_c, go_nil, go_cons, kGo_n, kGo_r, List.set_cons_zero, List.set_cons_succ, List.cons_append, List.nil_append, List.length_cons, List.length_nil, List.all_cons, List.all_nil, Bool.and_true, Bool.true_and, Bool.and_false, Bool.false_and, Bool.or_true, Bool.true_or, Bool.or_false, Bool.false_or, Bool.not_true, Bool.not_false, decide_true, decide_false, eq_self, Int.cast_ofNat_Int, beq_self_eq_true, s_far_wide, s_far_turn, s_wide_far, s_wide_turn, s_turn_far, s_turn_wide, List.any_cons, List.any_nil, Int.reduceEq, Int.reduceLT, Int.reduceLE, Int.reduceAdd, Int.reduceSub, Int.reduceMul, Int.reduceNeg, Int.reduceToNat, Bool.decide_eq_true, Bool.false_eq_true, ↓reduceIte, List.length_map, bitsM_len, Nat.zero_add, Nat.reduceAdd, call_cf]
  rfl
theorem r_llearnt {n : Nat} (row : List Int) (s : Int) (hs : 0 ≤ s) (hr : row.length < 64) (hT : (lrnL row s).length ≤ 26) : run pg (n + 1) "_law_learnt" [rowD row, .int s] = .ok (.tup [rowD (lrnL row s), .str (sN (ltN (row.map fun t => idxL s t (lrnL row s))))]) := by
  have hm := tms_ok hs row
  have hU := lrn_U hs row
  generalize hTT : lrnL row s = T at hT hm hU ⊢
  have ess := sst_t (ns := row) hr
  rw [rowD_eq] at ess
  rw [run__law_learnt]
  simp -implicitDefEqProofs (disch := first | exact sh_int | assumption | omega | (simp -implicitDefEqProofs only [List.length_cons, List.length_nil, List.length_map, List.length_append, List.length_reverse, List.length_take, List.length_drop, List.length_set, List.length_replicate, bitsM_len, bitsL_len]; omega) | (simp -implicitDefEqProofs only [sh_int, sh_oI, sh8_pairs, sh8_rows, sh8_row, sh9_row, sh9_p, sh_bl, sh_non, sh9t, sh9l, sh8t, sh8l, sh7t, sh7l, sh6t, sh6l, sh5t, sh5l, sh4t, sh4l, sh_ints, sh_str, List.all_cons, List.all_nil, List.all_append, List.all_reverse, Bool.and_true, Bool.and_self]; done) | (simp -implicitDefEqProofs only [sh_int, sh_oI, sh8_pairs, sh8_rows, sh8_row, sh9_row, sh9_p, sh_bl, sh_non, sh9t, sh9l, sh8t, sh8l, sh7t, sh7l, sh6t, sh6l, sh5t, sh5l, sh4t, sh4l, sh_ints, sh_str, List.all_cons, List.all_nil, List.all_append, List.all_reverse, Bool.and_true, Bool.and_self]; decide +kernel)) only [ev_var, ev_cst, ev_glb, ev_bin, ev_cmp, ev_neg, ev_not, ev_chn, ev_and, ev_or, ev_idx, ev_cut, ev_stp, ev_tup, ev_lst, ev_call, ev_bi, ev_isi, ev_lc, ev_mth, ev_rpl, ev_kin, ev_kget, ev_sst, ev_lss, evs_nil, evs_cons, b1_ok, b2_ok, bs_ok, bcons_ok, band_t, band_f, band_b, bor_t, bor_f, bor_b, b3_ok, dNot_b, dNeg_i, prt_f, prt_t, blc_ok, bit_ok, dTup_ok, dLst_ok, add_ii, sub_ii, mul_l, mul_r, div_ii, mod_ii, add_tt, add_ll, mul_t1i, mul_l1i, lt_ii, le_ii, gt_ii, ge_ii, chn_le, is_bb, isn_bb, is_nn, is_in, isn_nn, isn_in, is_on, isn_on, deq_nn, deq_ni, deq_in, deq_oi, deq_oo, sh_oI, oI_s, oI_n, eq_ok, ne_ok, in_tup, nin_tup, in_lst, nin_lst, sh_int, sh_bl, sh_non, sh_str, sh_ints, deq_ii, deq_bb, deq_ss, deq_tt, deq_ll, deqL_nil, deqL_cons, deqL_nc, deqL_cn, deqL_ints, deqL_pairs, deqL_rows, deq_rr, deq_pp, get_0, get_s, ix_t0, ix_t1, ix_t2, ix_t3, ix_t4, ix_t5, ix_t6, ix_l0, ix_l1, ix_l2, ix_l3, ix_l4, ix_l5, ix_lb, ix_tb, dCut_t, dCut_l, rev_t, rev_l, even_t, odd_t, even_l, odd_l, len_t, len_l, int_b, int_i, tuple_t, tuple_l, list_t, list_l, abs_i, sum_t, sum_l, max_2, min_2, max_3, min_3, all_l, isi_ii, isi_ib, isi_is, isi_it, isi_il, isi_bi, isi_bb, isi_bt, isi_bs, isi_tt, isi_tl, isi_ti, isi_ts, isi_ll, isi_lt, isi_li, isi_ls, isi_ss, isi_si, isi_st, isi_sb, it_t, it_l, it_r1, it_r2, it_et, it_el, it_ztt, it_zll, it_ztl, it_zlt, lcFn_1, lcFn_2, cdR_t, cdR_f, cdR_b, xs_nil, xs_set, xs_own, xs_unp, xs_app, xs_ext, xs_put, kExt_ok, kPut_last, xs_frz, xs_pas, xs_ret, xs_ife, xs_for, kSet_ok, kOwn_ok, kUnp_t, kUnp_l, kApp_ok, kRet_ok, kIf_t, kIf_f, kSeq_n, kSeq_r, kFor_ok, forFn_1, forFn_2, setAll_n, setAll_c, fin_r, fin_n, wipe_n, wipe_c, kGo_n, kGo_r, List.set_cons_zero, List.set_cons_succ, List.cons_append, List.nil_append, List.length_cons, List.length_nil, List.all_cons, List.all_nil, Bool.and_true, Bool.true_and, Bool.and_false, Bool.false_and, Bool.or_true, Bool.true_or, Bool.or_false, Bool.false_or, Bool.not_true, Bool.not_false, decide_true, decide_false, eq_self, Int.cast_ofNat_Int, beq_self_eq_true, s_far_wide, s_far_turn, s_wide_far, s_wide_turn, s_turn_far, s_turn_wide, List.any_cons, List.any_nil, Int.reduceEq, Int.reduceLT, Int.reduceLE, Int.reduceAdd, Int.reduceSub, Int.reduceMul, Int.reduceNeg, Int.reduceToNat, Bool.decide_eq_true, Bool.false_eq_true, ↓reduceIte, List.length_map, bitsM_len, Nat.zero_add, Nat.reduceAdd, call_cf, f__law_learnt, ess, xs_whl]
  refine whl_fin (fun k ρ => ∃ (L acc : List Int) (j4 : Option D), L.length = k ∧ k ≤ 64 ∧ L.Pairwise (· ≤ ·) ∧ acc ++ tfGo s none L = T ∧ ρ = [some (rowD row), some (.int s), some (.lst (L.map D.int)), some (.tup (acc.map D.int)), j4, none, none, none, none]) (srtU row).length ?_ ⟨srtU row, [], none, rfl, by have := srtU_le row; omega, (srtU_lt row).imp fun {a b} z => by omega, hU.symm, rfl⟩ ?_ ?_
  · have := srtU_le row
    omega
  · rintro k ρ ⟨L, acc, j4, hk, hb, hp, e, rfl⟩
    cases L with
    | nil =>
      refine .inr ⟨whT_eq ?_, [], acc, j4, rfl, by omega, hp, e, rfl⟩
      simp -implicitDefEqProofs (disch := first | exact sh_int | assumption | omega | (simp -implicitDefEqProofs only [List.length_cons, List.length_nil, List.length_map, List.length_append, List.length_reverse, List.length_take, List.length_drop, List.length_set, List.length_replicate, bitsM_len, bitsL_len]; omega) | (simp -implicitDefEqProofs only [sh_int, sh_oI, sh8_pairs, sh8_rows, sh8_row, sh9_row, sh9_p, sh_bl, sh_non, sh9t, sh9l, sh8t, sh8l, sh7t, sh7l, sh6t, sh6l, sh5t, sh5l, sh4t, sh4l, sh_ints, sh_str, List.all_cons, List.all_nil, List.all_append, List.all_reverse, Bool.and_true, Bool.and_self]; done) | (simp -implicitDefEqProofs only [sh_int, sh_oI, sh8_pairs, sh8_rows, sh8_row, sh9_row, sh9_p, sh_bl, sh_non, sh9t, sh9l, sh8t, sh8l, sh7t, sh7l, sh6t, sh6l, sh5t, sh5l, sh4t, sh4l, sh_ints, sh_str, List.all_cons, List.all_nil, List.all_append, List.all_reverse, Bool.and_true, Bool.and_self]; decide +kernel)) only [ev_var, ev_cst, ev_glb, ev_bin, ev_cmp, ev_neg, ev_not, ev_chn, ev_and, ev_or, ev_idx, ev_cut, ev_stp, ev_tup, ev_lst, ev_call, ev_bi, ev_isi, ev_lc, ev_mth, ev_rpl, ev_kin, ev_kget, ev_sst, ev_lss, evs_nil, evs_cons, b1_ok, b2_ok, bs_ok, bcons_ok, band_t, band_f, band_b, bor_t, bor_f, bor_b, b3_ok, dNot_b, dNeg_i, prt_f, prt_t, blc_ok, bit_ok, dTup_ok, dLst_ok, add_ii, sub_ii, mul_l, mul_r, div_ii, mod_ii, add_tt, add_ll, mul_t1i, mul_l1i, lt_ii, le_ii, gt_ii, ge_ii, chn_le, is_bb, isn_bb, is_nn, is_in, isn_nn, isn_in, is_on, isn_on, deq_nn, deq_ni, deq_in, deq_oi, deq_oo, sh_oI, oI_s, oI_n, eq_ok, ne_ok, in_tup, nin_tup, in_lst, nin_lst, sh_int, sh_bl, sh_non, sh_str, sh_ints, deq_ii, deq_bb, deq_ss, deq_tt, deq_ll, deqL_nil, deqL_cons, deqL_nc, deqL_cn, deqL_ints, deqL_pairs, deqL_rows, deq_rr, deq_pp, get_0, get_s, ix_t0, ix_t1, ix_t2, ix_t3, ix_t4, ix_t5, ix_t6, ix_l0, ix_l1, ix_l2, ix_l3, ix_l4, ix_l5, ix_lb, ix_tb, dCut_t, dCut_l, rev_t, rev_l, even_t, odd_t, even_l, odd_l, len_t, len_l, int_b, int_i, tuple_t, tuple_l, list_t, list_l, abs_i, sum_t, sum_l, max_2, min_2, max_3, min_3, all_l, isi_ii, isi_ib, isi_is, isi_it, isi_il, isi_bi, isi_bb, isi_bt, isi_bs, isi_tt, isi_tl, isi_ti, isi_ts, isi_ll, isi_lt, isi_li, isi_ls, isi_ss, isi_si, isi_st, isi_sb, it_t, it_l, it_r1, it_r2, it_et, it_el, it_ztt, it_zll, it_ztl, it_zlt, lcFn_1, lcFn_2, cdR_t, cdR_f, cdR_b, xs_nil, xs_set, xs_own, xs_unp, xs_app, xs_ext, xs_put, kExt_ok, kPut_last, xs_frz, xs_pas, xs_ret, xs_ife, xs_for, kSet_ok, kOwn_ok, kUnp_t, kUnp_l, kApp_ok, kRet_ok, kIf_t, kIf_f, kSeq_n, kSeq_r, kFor_ok, forFn_1, forFn_2, setAll_n, setAll_c, fin_r, fin_n, wipe_n, wipe_c, go_nil, go_cons, kGo_n, kGo_r, List.set_cons_zero, List.set_cons_succ, List.cons_append, List.nil_append, List.length_cons, List.length_nil, List.all_cons, List.all_nil, Bool.and_true, Bool.true_and, Bool.and_false, Bool.false_and, Bool.or_true, Bool.true_or, Bool.or_false, Bool.false_or, Bool.not_true, Bool.not_false, decide_true, decide_false, eq_self, Int.cast_ofNat_Int, beq_self_eq_true, s_far_wide, s_far_turn, s_wide_far, s_wide_turn, s_turn_far, s_turn_wide, List.any_cons, List.any_nil, Int.reduceEq, Int.reduceLT, Int.reduceLE, Int.reduceAdd, Int.reduceSub, Int.reduceMul, Int.reduceNeg, Int.reduceToNat, Bool.decide_eq_true, Bool.false_eq_true, ↓reduceIte, List.length_map, bitsM_len, Nat.zero_add, Nat.reduceAdd, call_cf, List.map_nil]
    | cons x r =>
      refine .inl ⟨whT_eq ?_, ?_⟩
      · simp -implicitDefEqProofs (disch := first | exact sh_int | assumption | omega | (simp -implicitDefEqProofs only [List.length_cons, List.length_nil, List.length_map, List.length_append, List.length_reverse, List.length_take, List.length_drop, List.length_set, List.length_replicate, bitsM_len, bitsL_len]; omega) | (simp -implicitDefEqProofs only [sh_int, sh_oI, sh8_pairs, sh8_rows, sh8_row, sh9_row, sh9_p, sh_bl, sh_non, sh9t, sh9l, sh8t, sh8l, sh7t, sh7l, sh6t, sh6l, sh5t, sh5l, sh4t, sh4l, sh_ints, sh_str, List.all_cons, List.all_nil, List.all_append, List.all_reverse, Bool.and_true, Bool.and_self]; done) | (simp -implicitDefEqProofs only [sh_int, sh_oI, sh8_pairs, sh8_rows, sh8_row, sh9_row, sh9_p, sh_bl, sh_non, sh9t, sh9l, sh8t, sh8l, sh7t, sh7l, sh6t, sh6l, sh5t, sh5l, sh4t, sh4l, sh_ints, sh_str, List.all_cons, List.all_nil, List.all_append, List.all_reverse, Bool.and_true, Bool.and_self]; decide +kernel)) only [ev_var, ev_cst, ev_glb, ev_bin, ev_cmp, ev_neg, ev_not, ev_chn, ev_and, ev_or, ev_idx, ev_cut, ev_stp, ev_tup, ev_lst, ev_call, ev_bi, ev_isi, ev_lc, ev_mth, ev_rpl, ev_kin, ev_kget, ev_sst, ev_lss, evs_nil, evs_cons, b1_ok, b2_ok, bs_ok, bcons_ok, band_t, band_f, band_b, bor_t, bor_f, bor_b, b3_ok, dNot_b, dNeg_i, prt_f, prt_t, blc_ok, bit_ok, dTup_ok, dLst_ok, add_ii, sub_ii, mul_l, mul_r, div_ii, mod_ii, add_tt, add_ll, mul_t1i, mul_l1i, lt_ii, le_ii, gt_ii, ge_ii, chn_le, is_bb, isn_bb, is_nn, is_in, isn_nn, isn_in, is_on, isn_on, deq_nn, deq_ni, deq_in, deq_oi, deq_oo, sh_oI, oI_s, oI_n, eq_ok, ne_ok, in_tup, nin_tup, in_lst, nin_lst, sh_int, sh_bl, sh_non, sh_str, sh_ints, deq_ii, deq_bb, deq_ss, deq_tt, deq_ll, deqL_nil, deqL_cons, deqL_nc, deqL_cn, deqL_ints, deqL_pairs, deqL_rows, deq_rr, deq_pp, get_0, get_s, ix_t0, ix_t1, ix_t2, ix_t3, ix_t4, ix_t5, ix_t6, ix_l0, ix_l1, ix_l2, ix_l3, ix_l4, ix_l5, ix_lb, ix_tb, dCut_t, dCut_l, rev_t, rev_l, even_t, odd_t, even_l, odd_l, len_t, len_l, int_b, int_i, tuple_t, tuple_l, list_t, list_l, abs_i, sum_t, sum_l, max_2, min_2, max_3, min_3, all_l, isi_ii, isi_ib, isi_is, isi_it, isi_il, isi_bi, isi_bb, isi_bt, isi_bs, isi_tt, isi_tl, isi_ti, isi_ts, isi_ll, isi_lt, isi_li, isi_ls, isi_ss, isi_si, isi_st, isi_sb, it_t, it_l, it_r1, it_r2, it_et, it_el, it_ztt, it_zll, it_ztl, it_zlt, lcFn_1, lcFn_2, cdR_t, cdR_f, cdR_b, xs_nil, xs_set, xs_own, xs_unp, xs_app, xs_ext, xs_put, kExt_ok, kPut_last, xs_frz, xs_pas, xs_ret, xs_ife, xs_for, kSet_ok, kOwn_ok, kUnp_t, kUnp_l, kApp_ok, kRet_ok, kIf_t, kIf_f, kSeq_n, kSeq_r, kFor_ok, forFn_1, forFn_2, setAll_n, setAll_c, fin_r, fin_n, wipe_n, wipe_c, go_nil, go_cons, kGo_n, kGo_r, List.set_cons_zero, List.set_cons_succ, List.cons_append, List.nil_append, List.length_cons, List.length_nil, List.all_cons, List.all_nil, Bool.and_true, Bool.true_and, Bool.and_false, Bool.false_and, Bool.or_true, Bool.true_or, Bool.or_false, Bool.false_or, Bool.not_true, Bool.not_false, decide_true, decide_false, eq_self, Int.cast_ofNat_Int, beq_self_eq_true, s_far_wide, s_far_turn, s_wide_far, s_wide_turn, s_turn_far, s_turn_wide, List.any_cons, List.any_nil, Int.reduceEq, Int.reduceLT, Int.reduceLE, Int.reduceAdd, Int.reduceSub, Int.reduceMul, Int.reduceNeg, Int.reduceToNat, Bool.decide_eq_true, Bool.false_eq_true, ↓reduceIte, List.length_map, bitsM_len, Nat.zero_add, Nat.reduceAdd, call_cf, List.map_cons]
      rw [tf_cons hs hp] at e
      have hlen : acc.length ≤ 26 := by
        have := congrArg List.length e
        rw [List.length_append] at this
        omega
      have hlr : r.length + 1 = k := hk
      have hfl := List.length_filter_le (fun z => decide (x + s + s < z)) (x :: r)
      rw [List.length_cons] at hfl
      refine ⟨_, ?_, ((x :: r).filter fun z => decide (x + s + s < z)).length, ?_, _, acc ++ [x + s], j4, rfl, by omega, hp.filter _, ?_, rfl⟩
      · simp -implicitDefEqProofs (disch := first | exact sh_int | assumption | omega | (simp -implicitDefEqProofs only [List.length_cons, List.length_nil, List.length_map, List.length_append, List.length_reverse, List.length_take, List.length_drop, List.length_set, List.length_replicate, bitsM_len, bitsL_len]; omega) | (simp -implicitDefEqProofs only [sh_int, sh_oI, sh8_pairs, sh8_rows, sh8_row, sh9_row, sh9_p, sh_bl, sh_non, sh9t, sh9l, sh8t, sh8l, sh7t, sh7l, sh6t, sh6l, sh5t, sh5l, sh4t, sh4l, sh_ints, sh_str, List.all_cons, List.all_nil, List.all_append, List.all_reverse, Bool.and_true, Bool.and_self]; done) | (simp -implicitDefEqProofs only [sh_int, sh_oI, sh8_pairs, sh8_rows, sh8_row, sh9_row, sh9_p, sh_bl, sh_non, sh9t, sh9l, sh8t, sh8l, sh7t, sh7l, sh6t, sh6l, sh5t, sh5l, sh4t, sh4l, sh_ints, sh_str, List.all_cons, List.all_nil, List.all_append, List.all_reverse, Bool.and_true, Bool.and_self]; decide +kernel)) only [ev_var, ev_cst, ev_glb, ev_bin, ev_cmp, ev_neg, ev_not, ev_chn, ev_and, ev_or, ev_idx, ev_cut, ev_stp, ev_tup, ev_lst, ev_call, ev_bi, ev_isi, ev_lc, ev_mth, ev_rpl, ev_kin, ev_kget, ev_sst, ev_lss, evs_nil, evs_cons, b1_ok, b2_ok, bs_ok, bcons_ok, band_t, band_f, band_b, bor_t, bor_f, bor_b, b3_ok, dNot_b, dNeg_i, prt_f, prt_t, blc_ok, bit_ok, dTup_ok, dLst_ok, add_ii, sub_ii, mul_l, mul_r, div_ii, mod_ii, add_tt, add_ll, mul_t1i, mul_l1i, lt_ii, le_ii, gt_ii, ge_ii, chn_le, is_bb, isn_bb, is_nn, is_in, isn_nn, isn_in, is_on, isn_on, deq_nn, deq_ni, deq_in, deq_oi, deq_oo, sh_oI, oI_s, oI_n, eq_ok, ne_ok, in_tup, nin_tup, in_lst, nin_lst, sh_int, sh_bl, sh_non, sh_str, sh_ints, deq_ii, deq_bb, deq_ss, deq_tt, deq_ll, deqL_nil, deqL_cons, deqL_nc, deqL_cn, deqL_ints, deqL_pairs, deqL_rows, deq_rr, deq_pp, get_0, get_s, ix_t0, ix_t1, ix_t2, ix_t3, ix_t4, ix_t5, ix_t6, ix_l0, ix_l1, ix_l2, ix_l3, ix_l4, ix_l5, ix_lb, ix_tb, dCut_t, dCut_l, rev_t, rev_l, even_t, odd_t, even_l, odd_l, len_t, len_l, int_b, int_i, tuple_t, tuple_l, list_t, list_l, abs_i, sum_t, sum_l, max_2, min_2, max_3, min_3, all_l, isi_ii, isi_ib, isi_is, isi_it, isi_il, isi_bi, isi_bb, isi_bt, isi_bs, isi_tt, isi_tl, isi_ti, isi_ts, isi_ll, isi_lt, isi_li, isi_ls, isi_ss, isi_si, isi_st, isi_sb, it_t, it_l, it_r1, it_r2, it_et, it_el, it_ztt, it_zll, it_ztl, it_zlt, lcFn_1, lcFn_2, cdR_t, cdR_f, cdR_b, xs_nil, xs_set, xs_own, xs_unp, xs_app, xs_ext, xs_put, kExt_ok, kPut_last, xs_frz, xs_pas, xs_ret, xs_ife, xs_for, kSet_ok, kOwn_ok, kUnp_t, kUnp_l, kApp_ok, kRet_ok, kIf_t, kIf_f, kSeq_n, kSeq_r, kFor_ok, forFn_1, forFn_2, setAll_n, setAll_c, fin_r, fin_n, wipe_n, wipe_c, kGo_n, kGo_r, List.set_cons_zero, List.set_cons_succ, List.cons_append, List.nil_append, List.length_cons, List.length_nil, List.all_cons, List.all_nil, Bool.and_true, Bool.true_and, Bool.and_false, Bool.false_and, Bool.or_true, Bool.true_or, Bool.or_false, Bool.false_or, Bool.not_true, Bool.not_false, decide_true, decide_false, eq_self, Int.cast_ofNat_Int, beq_self_eq_true, s_far_wide, s_far_turn, s_wide_far, s_wide_turn, s_turn_far, s_turn_wide, List.any_cons, List.any_nil, Int.reduceEq, Int.reduceLT, Int.reduceLE, Int.reduceAdd, Int.reduceSub, Int.reduceMul, Int.reduceNeg, Int.reduceToNat, Bool.decide_eq_true, Bool.false_eq_true, ↓reduceIte, List.length_map, bitsM_len, Nat.zero_add, Nat.reduceAdd, call_cf, List.map_cons]
        rw [lcS_fm (gFl (x + s + s)) (by rw [← List.map_cons, List.length_map, List.length_cons]; omega) (fun d hd => by
          rw [← List.map_cons] at hd
          obtain ⟨t, ht, rfl⟩ := List.mem_map.mp hd
          by_cases c : x + s + s < t
          · simp -implicitDefEqProofs (disch := first | exact sh_int | assumption | omega | (simp -implicitDefEqProofs only [List.length_cons, List.length_nil, List.length_map, List.length_append, List.length_reverse, List.length_take, List.length_drop, List.length_set, List.length_replicate, bitsM_len, bitsL_len]; omega) | (simp -implicitDefEqProofs only [sh_int, sh_oI, sh8_pairs, sh8_rows, sh8_row, sh9_row, sh9_p, sh_bl, sh_non, sh9t, sh9l, sh8t, sh8l, sh7t, sh7l, sh6t, sh6l, sh5t, sh5l, sh4t, sh4l, sh_ints, sh_str, List.all_cons, List.all_nil, List.all_append, List.all_reverse, Bool.and_true, Bool.and_self]; done) | (simp -implicitDefEqProofs only [sh_int, sh_oI, sh8_pairs, sh8_rows, sh8_row, sh9_row, sh9_p, sh_bl, sh_non, sh9t, sh9l, sh8t, sh8l, sh7t, sh7l, sh6t, sh6l, sh5t, sh5l, sh4t, sh4l, sh_ints, sh_str, List.all_cons, List.all_nil, List.all_append, List.all_reverse, Bool.and_true, Bool.and_self]; decide +kernel)) only [ev_var, ev_cst, ev_glb, ev_bin, ev_cmp, ev_neg, ev_not, ev_chn, ev_and, ev_or, ev_idx, ev_cut, ev_stp, ev_tup, ev_lst, ev_call, ev_bi, ev_isi, ev_lc, ev_mth, ev_rpl, ev_kin, ev_kget, ev_sst, ev_lss, evs_nil, evs_cons, b1_ok, b2_ok, bs_ok, bcons_ok, band_t, band_f, band_b, bor_t, bor_f, bor_b, b3_ok, dNot_b, dNeg_i, prt_f, prt_t, blc_ok, bit_ok, dTup_ok, dLst_ok, add_ii, sub_ii, mul_l, mul_r, div_ii, mod_ii, add_tt, add_ll, mul_t1i, mul_l1i, lt_ii, le_ii, gt_ii, ge_ii, chn_le, is_bb, isn_bb, is_nn, is_in, isn_nn, isn_in, is_on, isn_on, deq_nn, deq_ni, deq_in, deq_oi, deq_oo, sh_oI, oI_s, oI_n, eq_ok, ne_ok, in_tup, nin_tup, in_lst, nin_lst, sh_int, sh_bl, sh_non, sh_str, sh_ints, deq_ii, deq_bb, deq_ss, deq_tt, deq_ll, deqL_nil, deqL_cons, deqL_nc, deqL_cn, deqL_ints, deqL_pairs, deqL_rows, deq_rr, deq_pp, get_0, get_s, ix_t0, ix_t1, ix_t2, ix_t3, ix_t4, ix_t5, ix_t6, ix_l0, ix_l1, ix_l2, ix_l3, ix_l4, ix_l5, ix_lb, ix_tb, dCut_t, dCut_l, rev_t, rev_l, even_t, odd_t, even_l, odd_l, len_t, len_l, int_b, int_i, tuple_t, tuple_l, list_t, list_l, abs_i, sum_t, sum_l, max_2, min_2, max_3, min_3, all_l, isi_ii, isi_ib, isi_is, isi_it, isi_il, isi_bi, isi_bb, isi_bt, isi_bs, isi_tt, isi_tl, isi_ti, isi_ts, isi_ll, isi_lt, isi_li, isi_ls, isi_ss, isi_si, isi_st, isi_sb, it_t, it_l, it_r1, it_r2, it_et, it_el, it_ztt, it_zll, it_ztl, it_zlt, lcFn_1, lcFn_2, cdR_t, cdR_f, cdR_b, xs_nil, xs_set, xs_own, xs_unp, xs_app, xs_ext, xs_put, kExt_ok, kPut_last, xs_frz, xs_pas, xs_ret, xs_ife, xs_for, kSet_ok, kOwn_ok, kUnp_t, kUnp_l, kApp_ok, kRet_ok, kIf_t, kIf_f, kSeq_n, kSeq_r, kFor_ok, forFn_1, forFn_2, setAll_n, setAll_c, fin_r, fin_n, wipe_n, wipe_c, go_nil, go_cons, kGo_n, kGo_r, List.set_cons_zero, List.set_cons_succ, List.cons_append, List.nil_append, List.length_cons, List.length_nil, List.all_cons, List.all_nil, Bool.and_true, Bool.true_and, Bool.and_false, Bool.false_and, Bool.or_true, Bool.true_or, Bool.or_false, Bool.false_or, Bool.not_true, Bool.not_false, decide_true, decide_false, eq_self, Int.cast_ofNat_Int, beq_self_eq_true, s_far_wide, s_far_turn, s_wide_far, s_wide_turn, s_turn_far, s_turn_wide, List.any_cons, List.any_nil, Int.reduceEq, Int.reduceLT, Int.reduceLE, Int.reduceAdd, Int.reduceSub, Int.reduceMul, Int.reduceNeg, Int.reduceToNat, Bool.decide_eq_true, Bool.false_eq_true, ↓reduceIte, List.length_map, bitsM_len, Nat.zero_add, Nat.reduceAdd, call_cf, List.map_cons, List.map_append, List.map_nil, ix_tm, c, gFl]
          · simp -implicitDefEqProofs (disch := first | exact sh_int | assumption | omega | (simp -implicitDefEqProofs only [List.length_cons, List.length_nil, List.length_map, List.length_append, List.length_reverse, List.length_take, List.length_drop, List.length_set, List.length_replicate, bitsM_len, bitsL_len]; omega) | (simp -implicitDefEqProofs only [sh_int, sh_oI, sh8_pairs, sh8_rows, sh8_row, sh9_row, sh9_p, sh_bl, sh_non, sh9t, sh9l, sh8t, sh8l, sh7t, sh7l, sh6t, sh6l, sh5t, sh5l, sh4t, sh4l, sh_ints, sh_str, List.all_cons, List.all_nil, List.all_append, List.all_reverse, Bool.and_true, Bool.and_self]; done) | (simp -implicitDefEqProofs only [sh_int, sh_oI, sh8_pairs, sh8_rows, sh8_row, sh9_row, sh9_p, sh_bl, sh_non, sh9t, sh9l, sh8t, sh8l, sh7t, sh7l, sh6t, sh6l, sh5t, sh5l, sh4t, sh4l, sh_ints, sh_str, List.all_cons, List.all_nil, List.all_append, List.all_reverse, Bool.and_true, Bool.and_self]; decide +kernel)) only [ev_var, ev_cst, ev_glb, ev_bin, ev_cmp, ev_neg, ev_not, ev_chn, ev_and, ev_or, ev_idx, ev_cut, ev_stp, ev_tup, ev_lst, ev_call, ev_bi, ev_isi, ev_lc, ev_mth, ev_rpl, ev_kin, ev_kget, ev_sst, ev_lss, evs_nil, evs_cons, b1_ok, b2_ok, bs_ok, bcons_ok, band_t, band_f, band_b, bor_t, bor_f, bor_b, b3_ok, dNot_b, dNeg_i, prt_f, prt_t, blc_ok, bit_ok, dTup_ok, dLst_ok, add_ii, sub_ii, mul_l, mul_r, div_ii, mod_ii, add_tt, add_ll, mul_t1i, mul_l1i, lt_ii, le_ii, gt_ii, ge_ii, chn_le, is_bb, isn_bb, is_nn, is_in, isn_nn, isn_in, is_on, isn_on, deq_nn, deq_ni, deq_in, deq_oi, deq_oo, sh_oI, oI_s, oI_n, eq_ok, ne_ok, in_tup, nin_tup, in_lst, nin_lst, sh_int, sh_bl, sh_non, sh_str, sh_ints, deq_ii, deq_bb, deq_ss, deq_tt, deq_ll, deqL_nil, deqL_cons, deqL_nc, deqL_cn, deqL_ints, deqL_pairs, deqL_rows, deq_rr, deq_pp, get_0, get_s, ix_t0, ix_t1, ix_t2, ix_t3, ix_t4, ix_t5, ix_t6, ix_l0, ix_l1, ix_l2, ix_l3, ix_l4, ix_l5, ix_lb, ix_tb, dCut_t, dCut_l, rev_t, rev_l, even_t, odd_t, even_l, odd_l, len_t, len_l, int_b, int_i, tuple_t, tuple_l, list_t, list_l, abs_i, sum_t, sum_l, max_2, min_2, max_3, min_3, all_l, isi_ii, isi_ib, isi_is, isi_it, isi_il, isi_bi, isi_bb, isi_bt, isi_bs, isi_tt, isi_tl, isi_ti, isi_ts, isi_ll, isi_lt, isi_li, isi_ls, isi_ss, isi_si, isi_st, isi_sb, it_t, it_l, it_r1, it_r2, it_et, it_el, it_ztt, it_zll, it_ztl, it_zlt, lcFn_1, lcFn_2, cdR_t, cdR_f, cdR_b, xs_nil, xs_set, xs_own, xs_unp, xs_app, xs_ext, xs_put, kExt_ok, kPut_last, xs_frz, xs_pas, xs_ret, xs_ife, xs_for, kSet_ok, kOwn_ok, kUnp_t, kUnp_l, kApp_ok, kRet_ok, kIf_t, kIf_f, kSeq_n, kSeq_r, kFor_ok, forFn_1, forFn_2, setAll_n, setAll_c, fin_r, fin_n, wipe_n, wipe_c, go_nil, go_cons, kGo_n, kGo_r, List.set_cons_zero, List.set_cons_succ, List.cons_append, List.nil_append, List.length_cons, List.length_nil, List.all_cons, List.all_nil, Bool.and_true, Bool.true_and, Bool.and_false, Bool.false_and, Bool.or_true, Bool.true_or, Bool.or_false, Bool.false_or, Bool.not_true, Bool.not_false, decide_true, decide_false, eq_self, Int.cast_ofNat_Int, beq_self_eq_true, s_far_wide, s_far_turn, s_wide_far, s_wide_turn, s_turn_far, s_turn_wide, List.any_cons, List.any_nil, Int.reduceEq, Int.reduceLT, Int.reduceLE, Int.reduceAdd, Int.reduceSub, Int.reduceMul, Int.reduceNeg, Int.reduceToNat, Bool.decide_eq_true, Bool.false_eq_true, ↓reduceIte, List.length_map, bitsM_len, Nat.zero_add, Nat.reduceAdd, call_cf, List.map_cons, List.map_append, List.map_nil, ix_tm, c, gFl])]
        simp -implicitDefEqProofs (disch := first | exact sh_int | assumption | omega | (simp -implicitDefEqProofs only [List.length_cons, List.length_nil, List.length_map, List.length_append, List.length_reverse, List.length_take, List.length_drop, List.length_set, List.length_replicate, bitsM_len, bitsL_len]; omega) | (simp -implicitDefEqProofs only [sh_int, sh_oI, sh8_pairs, sh8_rows, sh8_row, sh9_row, sh9_p, sh_bl, sh_non, sh9t, sh9l, sh8t, sh8l, sh7t, sh7l, sh6t, sh6l, sh5t, sh5l, sh4t, sh4l, sh_ints, sh_str, List.all_cons, List.all_nil, List.all_append, List.all_reverse, Bool.and_true, Bool.and_self]; done) | (simp -implicitDefEqProofs only [sh_int, sh_oI, sh8_pairs, sh8_rows, sh8_row, sh9_row, sh9_p, sh_bl, sh_non, sh9t, sh9l, sh8t, sh8l, sh7t, sh7l, sh6t, sh6l, sh5t, sh5l, sh4t, sh4l, sh_ints, sh_str, List.all_cons, List.all_nil, List.all_append, List.all_reverse, Bool.and_true, Bool.and_self]; decide +kernel)) only [ev_var, ev_cst, ev_glb, ev_bin, ev_cmp, ev_neg, ev_not, ev_chn, ev_and, ev_or, ev_idx, ev_cut, ev_stp, ev_tup, ev_lst, ev_call, ev_bi, ev_isi, ev_lc, ev_mth, ev_rpl, ev_kin, ev_kget, ev_sst, ev_lss, evs_nil, evs_cons, b1_ok, b2_ok, bs_ok, bcons_ok, band_t, band_f, band_b, bor_t, bor_f, bor_b, b3_ok, dNot_b, dNeg_i, prt_f, prt_t, blc_ok, bit_ok, dTup_ok, dLst_ok, add_ii, sub_ii, mul_l, mul_r, div_ii, mod_ii, add_tt, add_ll, mul_t1i, mul_l1i, lt_ii, le_ii, gt_ii, ge_ii, chn_le, is_bb, isn_bb, is_nn, is_in, isn_nn, isn_in, is_on, isn_on, deq_nn, deq_ni, deq_in, deq_oi, deq_oo, sh_oI, oI_s, oI_n, eq_ok, ne_ok, in_tup, nin_tup, in_lst, nin_lst, sh_int, sh_bl, sh_non, sh_str, sh_ints, deq_ii, deq_bb, deq_ss, deq_tt, deq_ll, deqL_nil, deqL_cons, deqL_nc, deqL_cn, deqL_ints, deqL_pairs, deqL_rows, deq_rr, deq_pp, get_0, get_s, ix_t0, ix_t1, ix_t2, ix_t3, ix_t4, ix_t5, ix_t6, ix_l0, ix_l1, ix_l2, ix_l3, ix_l4, ix_l5, ix_lb, ix_tb, dCut_t, dCut_l, rev_t, rev_l, even_t, odd_t, even_l, odd_l, len_t, len_l, int_b, int_i, tuple_t, tuple_l, list_t, list_l, abs_i, sum_t, sum_l, max_2, min_2, max_3, min_3, all_l, isi_ii, isi_ib, isi_is, isi_it, isi_il, isi_bi, isi_bb, isi_bt, isi_bs, isi_tt, isi_tl, isi_ti, isi_ts, isi_ll, isi_lt, isi_li, isi_ls, isi_ss, isi_si, isi_st, isi_sb, it_t, it_l, it_r1, it_r2, it_et, it_el, it_ztt, it_zll, it_ztl, it_zlt, lcFn_1, lcFn_2, cdR_t, cdR_f, cdR_b, xs_nil, xs_set, xs_own, xs_unp, xs_app, xs_ext, xs_put, kExt_ok, kPut_last, xs_frz, xs_pas, xs_ret, xs_ife, xs_for, kSet_ok, kOwn_ok, kUnp_t, kUnp_l, kApp_ok, kRet_ok, kIf_t, kIf_f, kSeq_n, kSeq_r, kFor_ok, forFn_1, forFn_2, setAll_n, setAll_c, fin_r, fin_n, wipe_n, wipe_c, kGo_n, kGo_r, List.set_cons_zero, List.set_cons_succ, List.cons_append, List.nil_append, List.length_cons, List.length_nil, List.all_cons, List.all_nil, Bool.and_true, Bool.true_and, Bool.and_false, Bool.false_and, Bool.or_true, Bool.true_or, Bool.or_false, Bool.false_or, Bool.not_true, Bool.not_false, decide_true, decide_false, eq_self, Int.cast_ofNat_Int, beq_self_eq_true, s_far_wide, s_far_turn, s_wide_far, s_wide_turn, s_turn_far, s_turn_wide, List.any_cons, List.any_nil, Int.reduceEq, Int.reduceLT, Int.reduceLE, Int.reduceAdd, Int.reduceSub, Int.reduceMul, Int.reduceNeg, Int.reduceToNat, Bool.decide_eq_true, Bool.false_eq_true, ↓reduceIte, List.length_map, bitsM_len, Nat.zero_add, Nat.reduceAdd, call_cf]
        rw [← List.map_cons, gFl_map]
        simp only [List.map_append, List.map_cons, List.map_nil]
      · rw [List.filter_cons, if_neg (by simp; omega)]
        have := List.length_filter_le (fun z => decide (x + s + s < z)) r
        omega
      · rw [List.append_assoc]
        exact e
  · rintro ρ' hf ⟨L, acc, j4, hk, _, hp, e, rfl⟩
    have hL : L = [] := List.length_eq_zero_iff.mp hk
    subst hL
    have e' : acc = T := by rw [← e, show tfGo s none [] = [] from rfl, List.append_nil]
    subst e'
    simp -implicitDefEqProofs (disch := first | exact sh_int | assumption | omega | (simp -implicitDefEqProofs only [List.length_cons, List.length_nil, List.length_map, List.length_append, List.length_reverse, List.length_take, List.length_drop, List.length_set, List.length_replicate, bitsM_len, bitsL_len]; omega) | (simp -implicitDefEqProofs only [sh_int, sh_oI, sh8_pairs, sh8_rows, sh8_row, sh9_row, sh9_p, sh_bl, sh_non, sh9t, sh9l, sh8t, sh8l, sh7t, sh7l, sh6t, sh6l, sh5t, sh5l, sh4t, sh4l, sh_ints, sh_str, List.all_cons, List.all_nil, List.all_append, List.all_reverse, Bool.and_true, Bool.and_self]; done) | (simp -implicitDefEqProofs only [sh_int, sh_oI, sh8_pairs, sh8_rows, sh8_row, sh9_row, sh9_p, sh_bl, sh_non, sh9t, sh9l, sh8t, sh8l, sh7t, sh7l, sh6t, sh6l, sh5t, sh5l, sh4t, sh4l, sh_ints, sh_str, List.all_cons, List.all_nil, List.all_append, List.all_reverse, Bool.and_true, Bool.and_self]; decide +kernel)) only [ev_var, ev_cst, ev_glb, ev_bin, ev_cmp, ev_neg, ev_not, ev_chn, ev_and, ev_or, ev_idx, ev_cut, ev_stp, ev_tup, ev_lst, ev_call, ev_bi, ev_isi, ev_lc, ev_mth, ev_rpl, ev_kin, ev_kget, ev_sst, ev_lss, evs_nil, evs_cons, b1_ok, b2_ok, bs_ok, bcons_ok, band_t, band_f, band_b, bor_t, bor_f, bor_b, b3_ok, dNot_b, dNeg_i, prt_f, prt_t, blc_ok, bit_ok, dTup_ok, dLst_ok, add_ii, sub_ii, mul_l, mul_r, div_ii, mod_ii, add_tt, add_ll, mul_t1i, mul_l1i, lt_ii, le_ii, gt_ii, ge_ii, chn_le, is_bb, isn_bb, is_nn, is_in, isn_nn, isn_in, is_on, isn_on, deq_nn, deq_ni, deq_in, deq_oi, deq_oo, sh_oI, oI_s, oI_n, eq_ok, ne_ok, in_tup, nin_tup, in_lst, nin_lst, sh_int, sh_bl, sh_non, sh_str, sh_ints, deq_ii, deq_bb, deq_ss, deq_tt, deq_ll, deqL_nil, deqL_cons, deqL_nc, deqL_cn, deqL_ints, deqL_pairs, deqL_rows, deq_rr, deq_pp, get_0, get_s, ix_t0, ix_t1, ix_t2, ix_t3, ix_t4, ix_t5, ix_t6, ix_l0, ix_l1, ix_l2, ix_l3, ix_l4, ix_l5, ix_lb, ix_tb, dCut_t, dCut_l, rev_t, rev_l, even_t, odd_t, even_l, odd_l, len_t, len_l, int_b, int_i, tuple_t, tuple_l, list_t, list_l, abs_i, sum_t, sum_l, max_2, min_2, max_3, min_3, all_l, isi_ii, isi_ib, isi_is, isi_it, isi_il, isi_bi, isi_bb, isi_bt, isi_bs, isi_tt, isi_tl, isi_ti, isi_ts, isi_ll, isi_lt, isi_li, isi_ls, isi_ss, isi_si, isi_st, isi_sb, it_t, it_l, it_r1, it_r2, it_et, it_el, it_ztt, it_zll, it_ztl, it_zlt, lcFn_1, lcFn_2, cdR_t, cdR_f, cdR_b, xs_nil, xs_set, xs_own, xs_unp, xs_app, xs_ext, xs_put, kExt_ok, kPut_last, xs_frz, xs_pas, xs_ret, xs_ife, xs_for, kSet_ok, kOwn_ok, kUnp_t, kUnp_l, kApp_ok, kRet_ok, kIf_t, kIf_f, kSeq_n, kSeq_r, kFor_ok, forFn_1, forFn_2, setAll_n, setAll_c, fin_r, fin_n, wipe_n, wipe_c, kGo_n, kGo_r, List.set_cons_zero, List.set_cons_succ, List.cons_append, List.nil_append, List.length_cons, List.length_nil, List.all_cons, List.all_nil, Bool.and_true, Bool.true_and, Bool.and_false, Bool.false_and, Bool.or_true, Bool.true_or, Bool.or_false, Bool.false_or, Bool.not_true, Bool.not_false, decide_true, decide_false, eq_self, Int.cast_ofNat_Int, beq_self_eq_true, s_far_wide, s_far_turn, s_wide_far, s_wide_turn, s_turn_far, s_turn_wide, List.any_cons, List.any_nil, Int.reduceEq, Int.reduceLT, Int.reduceLE, Int.reduceAdd, Int.reduceSub, Int.reduceMul, Int.reduceNeg, Int.reduceToNat, Bool.decide_eq_true, Bool.false_eq_true, ↓reduceIte, List.length_map, bitsM_len, Nat.zero_add, Nat.reduceAdd, call_cf, it_row, abc_lit]
    refine loopP_fin (fun r ρ => ∃ (q dn : List Int) (j4 j6 j7 j8 : Option D), r = q.map D.int ∧ dn ++ q = row ∧ ρ = [some (rowD row), some (.int s), some (.lst (List.map D.int [])), some (.tup (acc.map D.int)), j4, some (.str (sN (ltN (dn.map fun t => idxL s t acc)))), j6, j7, j8]) ⟨row, [], j4, none, none, none, rfl, rfl, rfl⟩ ?_ ?_
    · rintro d q ρ ⟨q, dn, j4, j6, j7, j8, hr', e, rfl⟩
      cases q with
      | nil => cases hr'
      | cons m q =>
        injection hr' with hd hq'
        subst hd hq'
        have hmr : m ∈ row := by rw [← e]; exact List.mem_append_right _ List.mem_cons_self
        obtain ⟨x, hx, g⟩ := idx_ok (hm.cov m hmr)
        have hi : idxL s m acc < 26 := by
          have := (List.getElem?_eq_some_iff.mp hx).1
          omega
        have hdn : dn.length ≤ 64 := by
          have := congrArg List.length e
          rw [List.length_append] at this
          omega
        simp -implicitDefEqProofs (disch := first | exact sh_int | assumption | omega | (simp -implicitDefEqProofs only [List.length_cons, List.length_nil, List.length_map, List.length_append, List.length_reverse, List.length_take, List.length_drop, List.length_set, List.length_replicate, bitsM_len, bitsL_len]; omega) | (simp -implicitDefEqProofs only [sh_int, sh_oI, sh8_pairs, sh8_rows, sh8_row, sh9_row, sh9_p, sh_bl, sh_non, sh9t, sh9l, sh8t, sh8l, sh7t, sh7l, sh6t, sh6l, sh5t, sh5l, sh4t, sh4l, sh_ints, sh_str, List.all_cons, List.all_nil, List.all_append, List.all_reverse, Bool.and_true, Bool.and_self]; done) | (simp -implicitDefEqProofs only [sh_int, sh_oI, sh8_pairs, sh8_rows, sh8_row, sh9_row, sh9_p, sh_bl, sh_non, sh9t, sh9l, sh8t, sh8l, sh7t, sh7l, sh6t, sh6l, sh5t, sh5l, sh4t, sh4l, sh_ints, sh_str, List.all_cons, List.all_nil, List.all_append, List.all_reverse, Bool.and_true, Bool.and_self]; decide +kernel)) only [ev_var, ev_cst, ev_glb, ev_bin, ev_cmp, ev_neg, ev_not, ev_chn, ev_and, ev_or, ev_idx, ev_cut, ev_stp, ev_tup, ev_lst, ev_call, ev_bi, ev_isi, ev_lc, ev_mth, ev_rpl, ev_kin, ev_kget, ev_sst, ev_lss, evs_nil, evs_cons, b1_ok, b2_ok, bs_ok, bcons_ok, band_t, band_f, band_b, bor_t, bor_f, bor_b, b3_ok, dNot_b, dNeg_i, prt_f, prt_t, blc_ok, bit_ok, dTup_ok, dLst_ok, add_ii, sub_ii, mul_l, mul_r, div_ii, mod_ii, add_tt, add_ll, mul_t1i, mul_l1i, lt_ii, le_ii, gt_ii, ge_ii, chn_le, is_bb, isn_bb, is_nn, is_in, isn_nn, isn_in, is_on, isn_on, deq_nn, deq_ni, deq_in, deq_oi, deq_oo, sh_oI, oI_s, oI_n, eq_ok, ne_ok, in_tup, nin_tup, in_lst, nin_lst, sh_int, sh_bl, sh_non, sh_str, sh_ints, deq_ii, deq_bb, deq_ss, deq_tt, deq_ll, deqL_nil, deqL_cons, deqL_nc, deqL_cn, deqL_ints, deqL_pairs, deqL_rows, deq_rr, deq_pp, get_0, get_s, ix_t0, ix_t1, ix_t2, ix_t3, ix_t4, ix_t5, ix_t6, ix_l0, ix_l1, ix_l2, ix_l3, ix_l4, ix_l5, ix_lb, ix_tb, dCut_t, dCut_l, rev_t, rev_l, even_t, odd_t, even_l, odd_l, len_t, len_l, int_b, int_i, tuple_t, tuple_l, list_t, list_l, abs_i, sum_t, sum_l, max_2, min_2, max_3, min_3, all_l, isi_ii, isi_ib, isi_is, isi_it, isi_il, isi_bi, isi_bb, isi_bt, isi_bs, isi_tt, isi_tl, isi_ti, isi_ts, isi_ll, isi_lt, isi_li, isi_ls, isi_ss, isi_si, isi_st, isi_sb, it_t, it_l, it_r1, it_r2, it_et, it_el, it_ztt, it_zll, it_ztl, it_zlt, lcFn_1, lcFn_2, cdR_t, cdR_f, cdR_b, xs_nil, xs_set, xs_own, xs_unp, xs_app, xs_ext, xs_put, kExt_ok, kPut_last, xs_frz, xs_pas, xs_ret, xs_ife, xs_for, kSet_ok, kOwn_ok, kUnp_t, kUnp_l, kApp_ok, kRet_ok, kIf_t, kIf_f, kSeq_n, kSeq_r, kFor_ok, forFn_1, forFn_2, setAll_n, setAll_c, fin_r, fin_n, wipe_n, wipe_c, kGo_n, kGo_r, List.set_cons_zero, List.set_cons_succ, List.cons_append, List.nil_append, List.length_cons, List.length_nil, List.all_cons, List.all_nil, Bool.and_true, Bool.true_and, Bool.and_false, Bool.false_and, Bool.or_true, Bool.true_or, Bool.or_false, Bool.false_or, Bool.not_true, Bool.not_false, decide_true, decide_false, eq_self, Int.cast_ofNat_Int, beq_self_eq_true, s_far_wide, s_far_turn, s_wide_far, s_wide_turn, s_turn_far, s_turn_wide, List.any_cons, List.any_nil, Int.reduceEq, Int.reduceLT, Int.reduceLE, Int.reduceAdd, Int.reduceSub, Int.reduceMul, Int.reduceNeg, Int.reduceToNat, Bool.decide_eq_true, Bool.false_eq_true, ↓reduceIte, List.length_map, bitsM_len, Nat.zero_add, Nat.reduceAdd, call_cf]
        rw [lcS_en (gNr s m) (by rw [List.length_map]; omega) (fun i x hx _ => by
          obtain ⟨t, ht, rfl⟩ := List.mem_map.mp hx
          by_cases c : (if t - m < 0 then -(t - m) else t - m) ≤ s
          · simp -implicitDefEqProofs (disch := first | exact sh_int | assumption | omega | (simp -implicitDefEqProofs only [List.length_cons, List.length_nil, List.length_map, List.length_append, List.length_reverse, List.length_take, List.length_drop, List.length_set, List.length_replicate, bitsM_len, bitsL_len]; omega) | (simp -implicitDefEqProofs only [sh_int, sh_oI, sh8_pairs, sh8_rows, sh8_row, sh9_row, sh9_p, sh_bl, sh_non, sh9t, sh9l, sh8t, sh8l, sh7t, sh7l, sh6t, sh6l, sh5t, sh5l, sh4t, sh4l, sh_ints, sh_str, List.all_cons, List.all_nil, List.all_append, List.all_reverse, Bool.and_true, Bool.and_self]; done) | (simp -implicitDefEqProofs only [sh_int, sh_oI, sh8_pairs, sh8_rows, sh8_row, sh9_row, sh9_p, sh_bl, sh_non, sh9t, sh9l, sh8t, sh8l, sh7t, sh7l, sh6t, sh6l, sh5t, sh5l, sh4t, sh4l, sh_ints, sh_str, List.all_cons, List.all_nil, List.all_append, List.all_reverse, Bool.and_true, Bool.and_self]; decide +kernel)) only [ev_var, ev_cst, ev_glb, ev_bin, ev_cmp, ev_neg, ev_not, ev_chn, ev_and, ev_or, ev_idx, ev_cut, ev_stp, ev_tup, ev_lst, ev_call, ev_bi, ev_isi, ev_lc, ev_mth, ev_rpl, ev_kin, ev_kget, ev_sst, ev_lss, evs_nil, evs_cons, b1_ok, b2_ok, bs_ok, bcons_ok, band_t, band_f, band_b, bor_t, bor_f, bor_b, b3_ok, dNot_b, dNeg_i, prt_f, prt_t, blc_ok, bit_ok, dTup_ok, dLst_ok, add_ii, sub_ii, mul_l, mul_r, div_ii, mod_ii, add_tt, add_ll, mul_t1i, mul_l1i, lt_ii, le_ii, gt_ii, ge_ii, chn_le, is_bb, isn_bb, is_nn, is_in, isn_nn, isn_in, is_on, isn_on, deq_nn, deq_ni, deq_in, deq_oi, deq_oo, sh_oI, oI_s, oI_n, eq_ok, ne_ok, in_tup, nin_tup, in_lst, nin_lst, sh_int, sh_bl, sh_non, sh_str, sh_ints, deq_ii, deq_bb, deq_ss, deq_tt, deq_ll, deqL_nil, deqL_cons, deqL_nc, deqL_cn, deqL_ints, deqL_pairs, deqL_rows, deq_rr, deq_pp, get_0, get_s, ix_t0, ix_t1, ix_t2, ix_t3, ix_t4, ix_t5, ix_t6, ix_l0, ix_l1, ix_l2, ix_l3, ix_l4, ix_l5, ix_lb, ix_tb, dCut_t, dCut_l, rev_t, rev_l, even_t, odd_t, even_l, odd_l, len_t, len_l, int_b, int_i, tuple_t, tuple_l, list_t, list_l, abs_i, sum_t, sum_l, max_2, min_2, max_3, min_3, all_l, isi_ii, isi_ib, isi_is, isi_it, isi_il, isi_bi, isi_bb, isi_bt, isi_bs, isi_tt, isi_tl, isi_ti, isi_ts, isi_ll, isi_lt, isi_li, isi_ls, isi_ss, isi_si, isi_st, isi_sb, it_t, it_l, it_r1, it_r2, it_et, it_el, it_ztt, it_zll, it_ztl, it_zlt, lcFn_1, lcFn_2, cdR_t, cdR_f, cdR_b, xs_nil, xs_set, xs_own, xs_unp, xs_app, xs_ext, xs_put, kExt_ok, kPut_last, xs_frz, xs_pas, xs_ret, xs_ife, xs_for, kSet_ok, kOwn_ok, kUnp_t, kUnp_l, kApp_ok, kRet_ok, kIf_t, kIf_f, kSeq_n, kSeq_r, kFor_ok, forFn_1, forFn_2, setAll_n, setAll_c, fin_r, fin_n, wipe_n, wipe_c, go_nil, go_cons, kGo_n, kGo_r, List.set_cons_zero, List.set_cons_succ, List.cons_append, List.nil_append, List.length_cons, List.length_nil, List.all_cons, List.all_nil, Bool.and_true, Bool.true_and, Bool.and_false, Bool.false_and, Bool.or_true, Bool.true_or, Bool.or_false, Bool.false_or, Bool.not_true, Bool.not_false, decide_true, decide_false, eq_self, Int.cast_ofNat_Int, beq_self_eq_true, s_far_wide, s_far_turn, s_wide_far, s_wide_turn, s_turn_far, s_turn_wide, List.any_cons, List.any_nil, Int.reduceEq, Int.reduceLT, Int.reduceLE, Int.reduceAdd, Int.reduceSub, Int.reduceMul, Int.reduceNeg, Int.reduceToNat, Bool.decide_eq_true, Bool.false_eq_true, ↓reduceIte, List.length_map, bitsM_len, Nat.zero_add, Nat.reduceAdd, call_cf, c, gNr]
          · simp -implicitDefEqProofs (disch := first | exact sh_int | assumption | omega | (simp -implicitDefEqProofs only [List.length_cons, List.length_nil, List.length_map, List.length_append, List.length_reverse, List.length_take, List.length_drop, List.length_set, List.length_replicate, bitsM_len, bitsL_len]; omega) | (simp -implicitDefEqProofs only [sh_int, sh_oI, sh8_pairs, sh8_rows, sh8_row, sh9_row, sh9_p, sh_bl, sh_non, sh9t, sh9l, sh8t, sh8l, sh7t, sh7l, sh6t, sh6l, sh5t, sh5l, sh4t, sh4l, sh_ints, sh_str, List.all_cons, List.all_nil, List.all_append, List.all_reverse, Bool.and_true, Bool.and_self]; done) | (simp -implicitDefEqProofs only [sh_int, sh_oI, sh8_pairs, sh8_rows, sh8_row, sh9_row, sh9_p, sh_bl, sh_non, sh9t, sh9l, sh8t, sh8l, sh7t, sh7l, sh6t, sh6l, sh5t, sh5l, sh4t, sh4l, sh_ints, sh_str, List.all_cons, List.all_nil, List.all_append, List.all_reverse, Bool.and_true, Bool.and_self]; decide +kernel)) only [ev_var, ev_cst, ev_glb, ev_bin, ev_cmp, ev_neg, ev_not, ev_chn, ev_and, ev_or, ev_idx, ev_cut, ev_stp, ev_tup, ev_lst, ev_call, ev_bi, ev_isi, ev_lc, ev_mth, ev_rpl, ev_kin, ev_kget, ev_sst, ev_lss, evs_nil, evs_cons, b1_ok, b2_ok, bs_ok, bcons_ok, band_t, band_f, band_b, bor_t, bor_f, bor_b, b3_ok, dNot_b, dNeg_i, prt_f, prt_t, blc_ok, bit_ok, dTup_ok, dLst_ok, add_ii, sub_ii, mul_l, mul_r, div_ii, mod_ii, add_tt, add_ll, mul_t1i, mul_l1i, lt_ii, le_ii, gt_ii, ge_ii, chn_le, is_bb, isn_bb, is_nn, is_in, isn_nn, isn_in, is_on, isn_on, deq_nn, deq_ni, deq_in, deq_oi, deq_oo, sh_oI, oI_s, oI_n, eq_ok, ne_ok, in_tup, nin_tup, in_lst, nin_lst, sh_int, sh_bl, sh_non, sh_str, sh_ints, deq_ii, deq_bb, deq_ss, deq_tt, deq_ll, deqL_nil, deqL_cons, deqL_nc, deqL_cn, deqL_ints, deqL_pairs, deqL_rows, deq_rr, deq_pp, get_0, get_s, ix_t0, ix_t1, ix_t2, ix_t3, ix_t4, ix_t5, ix_t6, ix_l0, ix_l1, ix_l2, ix_l3, ix_l4, ix_l5, ix_lb, ix_tb, dCut_t, dCut_l, rev_t, rev_l, even_t, odd_t, even_l, odd_l, len_t, len_l, int_b, int_i, tuple_t, tuple_l, list_t, list_l, abs_i, sum_t, sum_l, max_2, min_2, max_3, min_3, all_l, isi_ii, isi_ib, isi_is, isi_it, isi_il, isi_bi, isi_bb, isi_bt, isi_bs, isi_tt, isi_tl, isi_ti, isi_ts, isi_ll, isi_lt, isi_li, isi_ls, isi_ss, isi_si, isi_st, isi_sb, it_t, it_l, it_r1, it_r2, it_et, it_el, it_ztt, it_zll, it_ztl, it_zlt, lcFn_1, lcFn_2, cdR_t, cdR_f, cdR_b, xs_nil, xs_set, xs_own, xs_unp, xs_app, xs_ext, xs_put, kExt_ok, kPut_last, xs_frz, xs_pas, xs_ret, xs_ife, xs_for, kSet_ok, kOwn_ok, kUnp_t, kUnp_l, kApp_ok, kRet_ok, kIf_t, kIf_f, kSeq_n, kSeq_r, kFor_ok, forFn_1, forFn_2, setAll_n, setAll_c, fin_r, fin_n, wipe_n, wipe_c, go_nil, go_cons, kGo_n, kGo_r, List.set_cons_zero, List.set_cons_succ, List.cons_append, List.nil_append, List.length_cons, List.length_nil, List.all_cons, List.all_nil, Bool.and_true, Bool.true_and, Bool.and_false, Bool.false_and, Bool.or_true, Bool.true_or, Bool.or_false, Bool.false_or, Bool.not_true, Bool.not_false, decide_true, decide_false, eq_self, Int.cast_ofNat_Int, beq_self_eq_true, s_far_wide, s_far_turn, s_wide_far, s_wide_turn, s_turn_far, s_turn_wide, List.any_cons, List.any_nil, Int.reduceEq, Int.reduceLT, Int.reduceLE, Int.reduceAdd, Int.reduceSub, Int.reduceMul, Int.reduceNeg, Int.reduceToNat, Bool.decide_eq_true, Bool.false_eq_true, ↓reduceIte, List.length_map, bitsM_len, Nat.zero_add, Nat.reduceAdd, call_cf, c, gNr])]
        obtain ⟨rr, hrr⟩ := gNr_head acc 0 (hm.cov m hmr)
        rw [hrr, Nat.zero_add]
        have h1 := ix_abc hi
        have h2 := add_ss (a := ltN (dn.map fun t => idxL s t acc)) (b := [97 + idxL s m acc]) (by
          rw [show (ltN (dn.map fun t => idxL s t acc)).length = dn.length by unfold ltN; rw [List.length_map, List.length_map], List.length_cons, List.length_nil]
          omega)
        simp -implicitDefEqProofs (disch := first | exact sh_int | assumption | omega | (simp -implicitDefEqProofs only [List.length_cons, List.length_nil, List.length_map, List.length_append, List.length_reverse, List.length_take, List.length_drop, List.length_set, List.length_replicate, bitsM_len, bitsL_len]; omega) | (simp -implicitDefEqProofs only [sh_int, sh_oI, sh8_pairs, sh8_rows, sh8_row, sh9_row, sh9_p, sh_bl, sh_non, sh9t, sh9l, sh8t, sh8l, sh7t, sh7l, sh6t, sh6l, sh5t, sh5l, sh4t, sh4l, sh_ints, sh_str, List.all_cons, List.all_nil, List.all_append, List.all_reverse, Bool.and_true, Bool.and_self]; done) | (simp -implicitDefEqProofs only [sh_int, sh_oI, sh8_pairs, sh8_rows, sh8_row, sh9_row, sh9_p, sh_bl, sh_non, sh9t, sh9l, sh8t, sh8l, sh7t, sh7l, sh6t, sh6l, sh5t, sh5l, sh4t, sh4l, sh_ints, sh_str, List.all_cons, List.all_nil, List.all_append, List.all_reverse, Bool.and_true, Bool.and_self]; decide +kernel)) only [ev_var, ev_cst, ev_glb, ev_bin, ev_cmp, ev_neg, ev_not, ev_chn, ev_and, ev_or, ev_idx, ev_cut, ev_stp, ev_tup, ev_lst, ev_call, ev_bi, ev_isi, ev_lc, ev_mth, ev_rpl, ev_kin, ev_kget, ev_sst, ev_lss, evs_nil, evs_cons, b1_ok, b2_ok, bs_ok, bcons_ok, band_t, band_f, band_b, bor_t, bor_f, bor_b, b3_ok, dNot_b, dNeg_i, prt_f, prt_t, blc_ok, bit_ok, dTup_ok, dLst_ok, add_ii, sub_ii, mul_l, mul_r, div_ii, mod_ii, add_tt, add_ll, mul_t1i, mul_l1i, lt_ii, le_ii, gt_ii, ge_ii, chn_le, is_bb, isn_bb, is_nn, is_in, isn_nn, isn_in, is_on, isn_on, deq_nn, deq_ni, deq_in, deq_oi, deq_oo, sh_oI, oI_s, oI_n, eq_ok, ne_ok, in_tup, nin_tup, in_lst, nin_lst, sh_int, sh_bl, sh_non, sh_str, sh_ints, deq_ii, deq_bb, deq_ss, deq_tt, deq_ll, deqL_nil, deqL_cons, deqL_nc, deqL_cn, deqL_ints, deqL_pairs, deqL_rows, deq_rr, deq_pp, get_0, get_s, ix_t0, ix_t1, ix_t2, ix_t3, ix_t4, ix_t5, ix_t6, ix_l0, ix_l1, ix_l2, ix_l3, ix_l4, ix_l5, ix_lb, ix_tb, dCut_t, dCut_l, rev_t, rev_l, even_t, odd_t, even_l, odd_l, len_t, len_l, int_b, int_i, tuple_t, tuple_l, list_t, list_l, abs_i, sum_t, sum_l, max_2, min_2, max_3, min_3, all_l, isi_ii, isi_ib, isi_is, isi_it, isi_il, isi_bi, isi_bb, isi_bt, isi_bs, isi_tt, isi_tl, isi_ti, isi_ts, isi_ll, isi_lt, isi_li, isi_ls, isi_ss, isi_si, isi_st, isi_sb, it_t, it_l, it_r1, it_r2, it_et, it_el, it_ztt, it_zll, it_ztl, it_zlt, lcFn_1, lcFn_2, cdR_t, cdR_f, cdR_b, xs_nil, xs_set, xs_own, xs_unp, xs_app, xs_ext, xs_put, kExt_ok, kPut_last, xs_frz, xs_pas, xs_ret, xs_ife, xs_for, kSet_ok, kOwn_ok, kUnp_t, kUnp_l, kApp_ok, kRet_ok, kIf_t, kIf_f, kSeq_n, kSeq_r, kFor_ok, forFn_1, forFn_2, setAll_n, setAll_c, fin_r, fin_n, wipe_n, wipe_c, kGo_n, kGo_r, List.set_cons_zero, List.set_cons_succ, List.cons_append, List.nil_append, List.length_cons, List.length_nil, List.all_cons, List.all_nil, Bool.and_true, Bool.true_and, Bool.and_false, Bool.false_and, Bool.or_true, Bool.true_or, Bool.or_false, Bool.false_or, Bool.not_true, Bool.not_false, decide_true, decide_false, eq_self, Int.cast_ofNat_Int, beq_self_eq_true, s_far_wide, s_far_turn, s_wide_far, s_wide_turn, s_turn_far, s_turn_wide, List.any_cons, List.any_nil, Int.reduceEq, Int.reduceLT, Int.reduceLE, Int.reduceAdd, Int.reduceSub, Int.reduceMul, Int.reduceNeg, Int.reduceToNat, Bool.decide_eq_true, Bool.false_eq_true, ↓reduceIte, List.length_map, bitsM_len, Nat.zero_add, Nat.reduceAdd, call_cf, h1, h2]
        refine ⟨_, rfl, q, dn ++ [m], some (.int m), some (.lst (.int (idxL s m acc : Nat) :: rr)), j7, j8, rfl, by rw [List.append_assoc]; exact e, ?_⟩
        rw [List.map_append]
        unfold ltN
        rw [List.map_append]
        rfl
    · rintro ρ ⟨q, dn, j4, j6, j7, j8, hr', e, rfl⟩
      cases q with
      | cons m q => cases hr'
      | nil =>
        rw [List.append_nil] at e
        subst e
        simp -implicitDefEqProofs (disch := first | exact sh_int | assumption | omega | (simp -implicitDefEqProofs only [List.length_cons, List.length_nil, List.length_map, List.length_append, List.length_reverse, List.length_take, List.length_drop, List.length_set, List.length_replicate, bitsM_len, bitsL_len]; omega) | (simp -implicitDefEqProofs only [sh_int, sh_oI, sh8_pairs, sh8_rows, sh8_row, sh9_row, sh9_p, sh_bl, sh_non, sh9t, sh9l, sh8t, sh8l, sh7t, sh7l, sh6t, sh6l, sh5t, sh5l, sh4t, sh4l, sh_ints, sh_str, List.all_cons, List.all_nil, List.all_append, List.all_reverse, Bool.and_true, Bool.and_self]; done) | (simp -implicitDefEqProofs only [sh_int, sh_oI, sh8_pairs, sh8_rows, sh8_row, sh9_row, sh9_p, sh_bl, sh_non, sh9t, sh9l, sh8t, sh8l, sh7t, sh7l, sh6t, sh6l, sh5t, sh5l, sh4t, sh4l, sh_ints, sh_str, List.all_cons, List.all_nil, List.all_append, List.all_reverse, Bool.and_true, Bool.and_self]; decide +kernel)) only [ev_var, ev_cst, ev_glb, ev_bin, ev_cmp, ev_neg, ev_not, ev_chn, ev_and, ev_or, ev_idx, ev_cut, ev_stp, ev_tup, ev_lst, ev_call, ev_bi, ev_isi, ev_lc, ev_mth, ev_rpl, ev_kin, ev_kget, ev_sst, ev_lss, evs_nil, evs_cons, b1_ok, b2_ok, bs_ok, bcons_ok, band_t, band_f, band_b, bor_t, bor_f, bor_b, b3_ok, dNot_b, dNeg_i, prt_f, prt_t, blc_ok, bit_ok, dTup_ok, dLst_ok, add_ii, sub_ii, mul_l, mul_r, div_ii, mod_ii, add_tt, add_ll, mul_t1i, mul_l1i, lt_ii, le_ii, gt_ii, ge_ii, chn_le, is_bb, isn_bb, is_nn, is_in, isn_nn, isn_in, is_on, isn_on, deq_nn, deq_ni, deq_in, deq_oi, deq_oo, sh_oI, oI_s, oI_n, eq_ok, ne_ok, in_tup, nin_tup, in_lst, nin_lst, sh_int, sh_bl, sh_non, sh_str, sh_ints, deq_ii, deq_bb, deq_ss, deq_tt, deq_ll, deqL_nil, deqL_cons, deqL_nc, deqL_cn, deqL_ints, deqL_pairs, deqL_rows, deq_rr, deq_pp, get_0, get_s, ix_t0, ix_t1, ix_t2, ix_t3, ix_t4, ix_t5, ix_t6, ix_l0, ix_l1, ix_l2, ix_l3, ix_l4, ix_l5, ix_lb, ix_tb, dCut_t, dCut_l, rev_t, rev_l, even_t, odd_t, even_l, odd_l, len_t, len_l, int_b, int_i, tuple_t, tuple_l, list_t, list_l, abs_i, sum_t, sum_l, max_2, min_2, max_3, min_3, all_l, isi_ii, isi_ib, isi_is, isi_it, isi_il, isi_bi, isi_bb, isi_bt, isi_bs, isi_tt, isi_tl, isi_ti, isi_ts, isi_ll, isi_lt, isi_li, isi_ls, isi_ss, isi_si, isi_st, isi_sb, it_t, it_l, it_r1, it_r2, it_et, it_el, it_ztt, it_zll, it_ztl, it_zlt, lcFn_1, lcFn_2, cdR_t, cdR_f, cdR_b, xs_nil, xs_set, xs_own, xs_unp, xs_app, xs_ext, xs_put, kExt_ok, kPut_last, xs_frz, xs_pas, xs_ret, xs_ife, xs_for, kSet_ok, kOwn_ok, kUnp_t, kUnp_l, kApp_ok, kRet_ok, kIf_t, kIf_f, kSeq_n, kSeq_r, kFor_ok, forFn_1, forFn_2, setAll_n, setAll_c, fin_r, fin_n, wipe_n, wipe_c, go_nil, go_cons, kGo_n, kGo_r, List.set_cons_zero, List.set_cons_succ, List.cons_append, List.nil_append, List.length_cons, List.length_nil, List.all_cons, List.all_nil, Bool.and_true, Bool.true_and, Bool.and_false, Bool.false_and, Bool.or_true, Bool.true_or, Bool.or_false, Bool.false_or, Bool.not_true, Bool.not_false, decide_true, decide_false, eq_self, Int.cast_ofNat_Int, beq_self_eq_true, s_far_wide, s_far_turn, s_wide_far, s_wide_turn, s_turn_far, s_turn_wide, List.any_cons, List.any_nil, Int.reduceEq, Int.reduceLT, Int.reduceLE, Int.reduceAdd, Int.reduceSub, Int.reduceMul, Int.reduceNeg, Int.reduceToNat, Bool.decide_eq_true, Bool.false_eq_true, ↓reduceIte, List.length_map, bitsM_len, Nat.zero_add, Nat.reduceAdd, call_cf]
        rfl
def badT (n : Nat) (z : List Nat) : Prop := z.length % 2 = 0 ∨ ∃ c ∈ z, okC n c = false
theorem unl_cond {n : Nat} (T : List Int) (z : List Nat) (hT : T.length ≤ 26) (hz : z.length ≤ 1000) (h : badT T.length z) : ev (cf n) (.or (.cmp .Eq (.bin .Mod (.bi .len [.var 1]) (.cst (.int 2))) (.cst (.int 0))) (.not (.bi .all [.lc [2] (.one 2) .seq [.var 1] (.cst (.bl true)) (.cmp .In (.var 2) (.cut (.glb "LETTERS") false (.cst .non) true (.bi .len [.var 0])))]))) [some (rowD T), some (.str (sN z)), none] = .ok (.bl true) := by
  have gL : oR ((cf n).glb.lookup ("LETTERS" : Str)) = .ok (.str ABC) := rfl
  have el := len_s (l := z) (by omega)
  by_cases c : ((z.length : Nat) : Int) % 2 = 0
  · simp -implicitDefEqProofs (disch := first | exact sh_int | assumption | omega | (simp -implicitDefEqProofs only [List.length_cons, List.length_nil, List.length_map, List.length_append, List.length_reverse, List.length_take, List.length_drop, List.length_set, List.length_replicate, bitsM_len, bitsL_len]; omega) | (simp -implicitDefEqProofs only [sh_int, sh_oI, sh8_pairs, sh8_rows, sh8_row, sh9_row, sh9_p, sh_bl, sh_non, sh9t, sh9l, sh8t, sh8l, sh7t, sh7l, sh6t, sh6l, sh5t, sh5l, sh4t, sh4l, sh_ints, sh_str, List.all_cons, List.all_nil, List.all_append, List.all_reverse, Bool.and_true, Bool.and_self]; done) | (simp -implicitDefEqProofs only [sh_int, sh_oI, sh8_pairs, sh8_rows, sh8_row, sh9_row, sh9_p, sh_bl, sh_non, sh9t, sh9l, sh8t, sh8l, sh7t, sh7l, sh6t, sh6l, sh5t, sh5l, sh4t, sh4l, sh_ints, sh_str, List.all_cons, List.all_nil, List.all_append, List.all_reverse, Bool.and_true, Bool.and_self]; decide +kernel)) only [ev_var, ev_cst, ev_glb, ev_bin, ev_cmp, ev_neg, ev_not, ev_chn, ev_and, ev_or, ev_idx, ev_cut, ev_stp, ev_tup, ev_lst, ev_call, ev_bi, ev_isi, ev_lc, ev_mth, ev_rpl, ev_kin, ev_kget, ev_sst, ev_lss, evs_nil, evs_cons, b1_ok, b2_ok, bs_ok, bcons_ok, band_t, band_f, band_b, bor_t, bor_f, bor_b, b3_ok, dNot_b, dNeg_i, prt_f, prt_t, blc_ok, bit_ok, dTup_ok, dLst_ok, add_ii, sub_ii, mul_l, mul_r, div_ii, mod_ii, add_tt, add_ll, mul_t1i, mul_l1i, lt_ii, le_ii, gt_ii, ge_ii, chn_le, is_bb, isn_bb, is_nn, is_in, isn_nn, isn_in, is_on, isn_on, deq_nn, deq_ni, deq_in, deq_oi, deq_oo, sh_oI, oI_s, oI_n, eq_ok, ne_ok, in_tup, nin_tup, in_lst, nin_lst, sh_int, sh_bl, sh_non, sh_str, sh_ints, deq_ii, deq_bb, deq_ss, deq_tt, deq_ll, deqL_nil, deqL_cons, deqL_nc, deqL_cn, deqL_ints, deqL_pairs, deqL_rows, deq_rr, deq_pp, get_0, get_s, ix_t0, ix_t1, ix_t2, ix_t3, ix_t4, ix_t5, ix_t6, ix_l0, ix_l1, ix_l2, ix_l3, ix_l4, ix_l5, ix_lb, ix_tb, dCut_t, dCut_l, rev_t, rev_l, even_t, odd_t, even_l, odd_l, len_t, len_l, int_b, int_i, tuple_t, tuple_l, list_t, list_l, abs_i, sum_t, sum_l, max_2, min_2, max_3, min_3, all_l, isi_ii, isi_ib, isi_is, isi_it, isi_il, isi_bi, isi_bb, isi_bt, isi_bs, isi_tt, isi_tl, isi_ti, isi_ts, isi_ll, isi_lt, isi_li, isi_ls, isi_ss, isi_si, isi_st, isi_sb, it_t, it_l, it_r1, it_r2, it_et, it_el, it_ztt, it_zll, it_ztl, it_zlt, lcFn_1, lcFn_2, cdR_t, cdR_f, cdR_b, xs_nil, xs_set, xs_own, xs_unp, xs_app, xs_ext, xs_put, kExt_ok, kPut_last, xs_frz, xs_pas, xs_ret, xs_ife, xs_for, kSet_ok, kOwn_ok, kUnp_t, kUnp_l, kApp_ok, kRet_ok, kIf_t, kIf_f, kSeq_n, kSeq_r, kFor_ok, forFn_1, forFn_2, setAll_n, setAll_c, fin_r, fin_n, wipe_n, wipe_c, go_nil, go_cons, kGo_n, kGo_r, List.set_cons_zero, List.set_cons_succ, List.cons_append, List.nil_append, List.length_cons, List.length_nil, List.all_cons, List.all_nil, Bool.and_true, Bool.true_and, Bool.and_false, Bool.false_and, Bool.or_true, Bool.true_or, Bool.or_false, Bool.false_or, Bool.not_true, Bool.not_false, decide_true, decide_false, eq_self, Int.cast_ofNat_Int, beq_self_eq_true, s_far_wide, s_far_turn, s_wide_far, s_wide_turn, s_turn_far, s_turn_wide, List.any_cons, List.any_nil, Int.reduceEq, Int.reduceLT, Int.reduceLE, Int.reduceAdd, Int.reduceSub, Int.reduceMul, Int.reduceNeg, Int.reduceToNat, Bool.decide_eq_true, Bool.false_eq_true, ↓reduceIte, List.length_map, bitsM_len, Nat.zero_add, Nat.reduceAdd, call_cf, el, c]
  · have hb : ∃ c ∈ z, okC T.length c = false := by
      rcases h with h | h
      · omega
      · exact h
    simp -implicitDefEqProofs (disch := first | exact sh_int | assumption | omega | (simp -implicitDefEqProofs only [List.length_cons, List.length_nil, List.length_map, List.length_append, List.length_reverse, List.length_take, List.length_drop, List.length_set, List.length_replicate, bitsM_len, bitsL_len]; omega) | (simp -implicitDefEqProofs only [sh_int, sh_oI, sh8_pairs, sh8_rows, sh8_row, sh9_row, sh9_p, sh_bl, sh_non, sh9t, sh9l, sh8t, sh8l, sh7t, sh7l, sh6t, sh6l, sh5t, sh5l, sh4t, sh4l, sh_ints, sh_str, List.all_cons, List.all_nil, List.all_append, List.all_reverse, Bool.and_true, Bool.and_self]; done) | (simp -implicitDefEqProofs only [sh_int, sh_oI, sh8_pairs, sh8_rows, sh8_row, sh9_row, sh9_p, sh_bl, sh_non, sh9t, sh9l, sh8t, sh8l, sh7t, sh7l, sh6t, sh6l, sh5t, sh5l, sh4t, sh4l, sh_ints, sh_str, List.all_cons, List.all_nil, List.all_append, List.all_reverse, Bool.and_true, Bool.and_self]; decide +kernel)) only [ev_var, ev_cst, ev_glb, ev_bin, ev_cmp, ev_neg, ev_not, ev_chn, ev_and, ev_or, ev_idx, ev_cut, ev_stp, ev_tup, ev_lst, ev_call, ev_bi, ev_isi, ev_lc, ev_mth, ev_rpl, ev_kin, ev_kget, ev_sst, ev_lss, evs_nil, evs_cons, b1_ok, b2_ok, bs_ok, bcons_ok, band_t, band_f, band_b, bor_t, bor_f, bor_b, b3_ok, dNot_b, dNeg_i, prt_f, prt_t, blc_ok, bit_ok, dTup_ok, dLst_ok, add_ii, sub_ii, mul_l, mul_r, div_ii, mod_ii, add_tt, add_ll, mul_t1i, mul_l1i, lt_ii, le_ii, gt_ii, ge_ii, chn_le, is_bb, isn_bb, is_nn, is_in, isn_nn, isn_in, is_on, isn_on, deq_nn, deq_ni, deq_in, deq_oi, deq_oo, sh_oI, oI_s, oI_n, eq_ok, ne_ok, in_tup, nin_tup, in_lst, nin_lst, sh_int, sh_bl, sh_non, sh_str, sh_ints, deq_ii, deq_bb, deq_ss, deq_tt, deq_ll, deqL_nil, deqL_cons, deqL_nc, deqL_cn, deqL_ints, deqL_pairs, deqL_rows, deq_rr, deq_pp, get_0, get_s, ix_t0, ix_t1, ix_t2, ix_t3, ix_t4, ix_t5, ix_t6, ix_l0, ix_l1, ix_l2, ix_l3, ix_l4, ix_l5, ix_lb, ix_tb, dCut_t, dCut_l, rev_t, rev_l, even_t, odd_t, even_l, odd_l, len_t, len_l, int_b, int_i, tuple_t, tuple_l, list_t, list_l, abs_i, sum_t, sum_l, max_2, min_2, max_3, min_3, all_l, isi_ii, isi_ib, isi_is, isi_it, isi_il, isi_bi, isi_bb, isi_bt, isi_bs, isi_tt, isi_tl, isi_ti, isi_ts, isi_ll, isi_lt, isi_li, isi_ls, isi_ss, isi_si, isi_st, isi_sb, it_t, it_l, it_r1, it_r2, it_et, it_el, it_ztt, it_zll, it_ztl, it_zlt, lcFn_1, lcFn_2, cdR_t, cdR_f, cdR_b, xs_nil, xs_set, xs_own, xs_unp, xs_app, xs_ext, xs_put, kExt_ok, kPut_last, xs_frz, xs_pas, xs_ret, xs_ife, xs_for, kSet_ok, kOwn_ok, kUnp_t, kUnp_l, kApp_ok, kRet_ok, kIf_t, kIf_f, kSeq_n, kSeq_r, kFor_ok, forFn_1, forFn_2, setAll_n, setAll_c, fin_r, fin_n, wipe_n, wipe_c, kGo_n, kGo_r, List.set_cons_zero, List.set_cons_succ, List.cons_append, List.nil_append, List.length_cons, List.length_nil, List.all_cons, List.all_nil, Bool.and_true, Bool.true_and, Bool.and_false, Bool.false_and, Bool.or_true, Bool.true_or, Bool.or_false, Bool.false_or, Bool.not_true, Bool.not_false, decide_true, decide_false, eq_self, Int.cast_ofNat_Int, beq_self_eq_true, s_far_wide, s_far_turn, s_wide_far, s_wide_turn, s_turn_far, s_turn_wide, List.any_cons, List.any_nil, Int.reduceEq, Int.reduceLT, Int.reduceLE, Int.reduceAdd, Int.reduceSub, Int.reduceMul, Int.reduceNeg, Int.reduceToNat, Bool.decide_eq_true, Bool.false_eq_true, ↓reduceIte, List.length_map, bitsM_len, Nat.zero_add, Nat.reduceAdd, call_cf, el, c, it_s]
    rw [lcS_map (gInC T.length) (by rw [List.length_map]; omega) (fun d hd => by
      obtain ⟨x, hx, rfl⟩ := List.mem_map.mp hd
      have h2 := in_abcC (c := x) (n := T.length) hT
      simp -implicitDefEqProofs (disch := first | exact sh_int | assumption | omega | (simp -implicitDefEqProofs only [List.length_cons, List.length_nil, List.length_map, List.length_append, List.length_reverse, List.length_take, List.length_drop, List.length_set, List.length_replicate, bitsM_len, bitsL_len]; omega) | (simp -implicitDefEqProofs only [sh_int, sh_oI, sh8_pairs, sh8_rows, sh8_row, sh9_row, sh9_p, sh_bl, sh_non, sh9t, sh9l, sh8t, sh8l, sh7t, sh7l, sh6t, sh6l, sh5t, sh5l, sh4t, sh4l, sh_ints, sh_str, List.all_cons, List.all_nil, List.all_append, List.all_reverse, Bool.and_true, Bool.and_self]; done) | (simp -implicitDefEqProofs only [sh_int, sh_oI, sh8_pairs, sh8_rows, sh8_row, sh9_row, sh9_p, sh_bl, sh_non, sh9t, sh9l, sh8t, sh8l, sh7t, sh7l, sh6t, sh6l, sh5t, sh5l, sh4t, sh4l, sh_ints, sh_str, List.all_cons, List.all_nil, List.all_append, List.all_reverse, Bool.and_true, Bool.and_self]; decide +kernel)) only [ev_var, ev_cst, ev_glb, ev_bin, ev_cmp, ev_neg, ev_not, ev_chn, ev_and, ev_or, ev_idx, ev_cut, ev_stp, ev_tup, ev_lst, ev_call, ev_bi, ev_isi, ev_lc, ev_mth, ev_rpl, ev_kin, ev_kget, ev_sst, ev_lss, evs_nil, evs_cons, b1_ok, b2_ok, bs_ok, bcons_ok, band_t, band_f, band_b, bor_t, bor_f, bor_b, b3_ok, dNot_b, dNeg_i, prt_f, prt_t, blc_ok, bit_ok, dTup_ok, dLst_ok, add_ii, sub_ii, mul_l, mul_r, div_ii, mod_ii, add_tt, add_ll, mul_t1i, mul_l1i, lt_ii, le_ii, gt_ii, ge_ii, chn_le, is_bb, isn_bb, is_nn, is_in, isn_nn, isn_in, is_on, isn_on, deq_nn, deq_ni, deq_in, deq_oi, deq_oo, sh_oI, oI_s, oI_n, eq_ok, ne_ok, in_tup, nin_tup, in_lst, nin_lst, sh_int, sh_bl, sh_non, sh_str, sh_ints, deq_ii, deq_bb, deq_ss, deq_tt, deq_ll, deqL_nil, deqL_cons, deqL_nc, deqL_cn, deqL_ints, deqL_pairs, deqL_rows, deq_rr, deq_pp, get_0, get_s, ix_t0, ix_t1, ix_t2, ix_t3, ix_t4, ix_t5, ix_t6, ix_l0, ix_l1, ix_l2, ix_l3, ix_l4, ix_l5, ix_lb, ix_tb, dCut_t, dCut_l, rev_t, rev_l, even_t, odd_t, even_l, odd_l, len_t, len_l, int_b, int_i, tuple_t, tuple_l, list_t, list_l, abs_i, sum_t, sum_l, max_2, min_2, max_3, min_3, all_l, isi_ii, isi_ib, isi_is, isi_it, isi_il, isi_bi, isi_bb, isi_bt, isi_bs, isi_tt, isi_tl, isi_ti, isi_ts, isi_ll, isi_lt, isi_li, isi_ls, isi_ss, isi_si, isi_st, isi_sb, it_t, it_l, it_r1, it_r2, it_et, it_el, it_ztt, it_zll, it_ztl, it_zlt, lcFn_1, lcFn_2, cdR_t, cdR_f, cdR_b, xs_nil, xs_set, xs_own, xs_unp, xs_app, xs_ext, xs_put, kExt_ok, kPut_last, xs_frz, xs_pas, xs_ret, xs_ife, xs_for, kSet_ok, kOwn_ok, kUnp_t, kUnp_l, kApp_ok, kRet_ok, kIf_t, kIf_f, kSeq_n, kSeq_r, kFor_ok, forFn_1, forFn_2, setAll_n, setAll_c, fin_r, fin_n, wipe_n, wipe_c, go_nil, go_cons, kGo_n, kGo_r, List.set_cons_zero, List.set_cons_succ, List.cons_append, List.nil_append, List.length_cons, List.length_nil, List.all_cons, List.all_nil, Bool.and_true, Bool.true_and, Bool.and_false, Bool.false_and, Bool.or_true, Bool.true_or, Bool.or_false, Bool.false_or, Bool.not_true, Bool.not_false, decide_true, decide_false, eq_self, Int.cast_ofNat_Int, beq_self_eq_true, s_far_wide, s_far_turn, s_wide_far, s_wide_turn, s_turn_far, s_turn_wide, List.any_cons, List.any_nil, Int.reduceEq, Int.reduceLT, Int.reduceLE, Int.reduceAdd, Int.reduceSub, Int.reduceMul, Int.reduceNeg, Int.reduceToNat, Bool.decide_eq_true, Bool.false_eq_true, ↓reduceIte, List.length_map, bitsM_len, Nat.zero_add, Nat.reduceAdd, call_cf, gL, len_r, cut_abc, h2, gInC]
      rfl), gInC_map]
    have hid : (z.map (okC T.length)).all id = false := by
      obtain ⟨x, hx, hx2⟩ := hb
      rw [List.all_map]
      exact Bool.eq_false_iff.mpr fun q => by
        have := List.all_eq_true.mp q x hx
        rw [show (id ∘ okC T.length) x = okC T.length x from rfl, hx2] at this
        exact nomatch this
    simp -implicitDefEqProofs (disch := first | exact sh_int | assumption | omega | (simp -implicitDefEqProofs only [List.length_cons, List.length_nil, List.length_map, List.length_append, List.length_reverse, List.length_take, List.length_drop, List.length_set, List.length_replicate, bitsM_len, bitsL_len]; omega) | (simp -implicitDefEqProofs only [sh_int, sh_oI, sh8_pairs, sh8_rows, sh8_row, sh9_row, sh9_p, sh_bl, sh_non, sh9t, sh9l, sh8t, sh8l, sh7t, sh7l, sh6t, sh6l, sh5t, sh5l, sh4t, sh4l, sh_ints, sh_str, List.all_cons, List.all_nil, List.all_append, List.all_reverse, Bool.and_true, Bool.and_self]; done) | (simp -implicitDefEqProofs only [sh_int, sh_oI, sh8_pairs, sh8_rows, sh8_row, sh9_row, sh9_p, sh_bl, sh_non, sh9t, sh9l, sh8t, sh8l, sh7t, sh7l, sh6t, sh6l, sh5t, sh5l, sh4t, sh4l, sh_ints, sh_str, List.all_cons, List.all_nil, List.all_append, List.all_reverse, Bool.and_true, Bool.and_self]; decide +kernel)) only [ev_var, ev_cst, ev_glb, ev_bin, ev_cmp, ev_neg, ev_not, ev_chn, ev_and, ev_or, ev_idx, ev_cut, ev_stp, ev_tup, ev_lst, ev_call, ev_bi, ev_isi, ev_lc, ev_mth, ev_rpl, ev_kin, ev_kget, ev_sst, ev_lss, evs_nil, evs_cons, b1_ok, b2_ok, bs_ok, bcons_ok, band_t, band_f, band_b, bor_t, bor_f, bor_b, b3_ok, dNot_b, dNeg_i, prt_f, prt_t, blc_ok, bit_ok, dTup_ok, dLst_ok, add_ii, sub_ii, mul_l, mul_r, div_ii, mod_ii, add_tt, add_ll, mul_t1i, mul_l1i, lt_ii, le_ii, gt_ii, ge_ii, chn_le, is_bb, isn_bb, is_nn, is_in, isn_nn, isn_in, is_on, isn_on, deq_nn, deq_ni, deq_in, deq_oi, deq_oo, sh_oI, oI_s, oI_n, eq_ok, ne_ok, in_tup, nin_tup, in_lst, nin_lst, sh_int, sh_bl, sh_non, sh_str, sh_ints, deq_ii, deq_bb, deq_ss, deq_tt, deq_ll, deqL_nil, deqL_cons, deqL_nc, deqL_cn, deqL_ints, deqL_pairs, deqL_rows, deq_rr, deq_pp, get_0, get_s, ix_t0, ix_t1, ix_t2, ix_t3, ix_t4, ix_t5, ix_t6, ix_l0, ix_l1, ix_l2, ix_l3, ix_l4, ix_l5, ix_lb, ix_tb, dCut_t, dCut_l, rev_t, rev_l, even_t, odd_t, even_l, odd_l, len_t, len_l, int_b, int_i, tuple_t, tuple_l, list_t, list_l, abs_i, sum_t, sum_l, max_2, min_2, max_3, min_3, all_l, isi_ii, isi_ib, isi_is, isi_it, isi_il, isi_bi, isi_bb, isi_bt, isi_bs, isi_tt, isi_tl, isi_ti, isi_ts, isi_ll, isi_lt, isi_li, isi_ls, isi_ss, isi_si, isi_st, isi_sb, it_t, it_l, it_r1, it_r2, it_et, it_el, it_ztt, it_zll, it_ztl, it_zlt, lcFn_1, lcFn_2, cdR_t, cdR_f, cdR_b, xs_nil, xs_set, xs_own, xs_unp, xs_app, xs_ext, xs_put, kExt_ok, kPut_last, xs_frz, xs_pas, xs_ret, xs_ife, xs_for, kSet_ok, kOwn_ok, kUnp_t, kUnp_l, kApp_ok, kRet_ok, kIf_t, kIf_f, kSeq_n, kSeq_r, kFor_ok, forFn_1, forFn_2, setAll_n, setAll_c, fin_r, fin_n, wipe_n, wipe_c, kGo_n, kGo_r, List.set_cons_zero, List.set_cons_succ, List.cons_append, List.nil_append, List.length_cons, List.length_nil, List.all_cons, List.all_nil, Bool.and_true, Bool.true_and, Bool.and_false, Bool.false_and, Bool.or_true, Bool.true_or, Bool.or_false, Bool.false_or, Bool.not_true, Bool.not_false, decide_true, decide_false, eq_self, Int.cast_ofNat_Int, beq_self_eq_true, s_far_wide, s_far_turn, s_wide_far, s_wide_turn, s_turn_far, s_turn_wide, List.any_cons, List.any_nil, Int.reduceEq, Int.reduceLT, Int.reduceLE, Int.reduceAdd, Int.reduceSub, Int.reduceMul, Int.reduceNeg, Int.reduceToNat, Bool.decide_eq_true, Bool.false_eq_true, ↓reduceIte, List.length_map, bitsM_len, Nat.zero_add, Nat.reduceAdd, call_cf, hid]
theorem unl_no {n : Nat} (T : List Int) (z : List Nat) (hT : T.length ≤ 26) (hz : z.length ≤ 1000) (h : badT T.length z) : (cf (n + 1)).call "unlearnt" [rowD T, .str (sN z)] = .bad ∧ (cf (n + 1)).xc "unlearnt" [rowD T, .str (sN z)] = some ("NoText" : Str) := by
  have e := unl_cond (n := n) T z hT hz h
  rw [call_cf, xc_cf, run_unlearnt, rx_unlearnt, f_unlearnt]
  refine ⟨?_, ?_⟩
  · rw [xs_ife, e, kIf_t]
    show finish (xss _ _ (.rse "NoText" :: _) _) = _
    rw [xs_rse]
    rfl
  · rw [xr_ife e]
    exact xr_rse
def bdy : List S := [.set 11 (.lc [12] (.one 12) .seq [.var 10] (.cmp .NotIn (.var 12) (.cut (.var 7) false (.cst .non) true (.bi .len [.var 5]))) (.var 12)),
      .set 13 (.and (.cmp .Eq (.bin .Mod (.bi .len [.var 10]) (.cst (.int 2))) (.cst (.int 1))) (.cmp .Eq (.var 11) (.lst []))),
      .told 14 "unlearnt" [.var 5, .var 10],
      .ife (.or (.cmp .NotEq (.cmp .Eq (.idx (.var 14) (.cst (.int 0))) (.cst (.str "told"))) (.var 13)) (.and (.not (.var 13)) (.cmp .NotEq (.var 14) (.tup [.cst (.str "refused"), .cst (.int 0)])))) [.ret (.cst (.bl false))] []]
theorem s_rt : (("refused" : Str) == ("told" : Str)) = false := by decide +kernel
theorem turn_ok {n : Nat} (T : List Int) (z : List Nat) (hT : T.length ≤ 26) (hz : z.length ≤ 1000) (hc : ∀ c ∈ z, c < 1114112) (h : badT T.length z) (a0 a1 a2 a3 a4 a6 a8 a9 b11 b12 b13 b14 b15 b16 : Option D) :
    ∃ c11 c13 c14, xss (cf (n + 1)) 100000 bdy [a0, a1, a2, a3, a4, some (rowD T), a6, some (.str EVY), a8, a9, some (.str (sN z)), b11, b12, b13, b14, b15, b16] = .ok (.nx [a0, a1, a2, a3, a4, some (rowD T), a6, some (.str EVY), a8, a9, some (.str (sN z)), c11, b12, c13, c14, b15, b16]) := by
  obtain ⟨u1, u2⟩ := unl_no (n := n) T z hT hz h
  have el := len_s (l := z) (by omega)
  have kT : ∀ (ρ : Rho) (r : List S), kTld (.ok [rowD T, .str (sN z)]) "unlearnt" (cf (n + 1)) 14 100000 r ρ = xss (cf (n + 1)) 100000 r (ρ.set 14 (some (.tup [.str "refused", .int 0]))) := fun ρ r => kTld_T u1 u2
  refine ⟨some (.lst ((z.filter fun c => !okC T.length c).map fun c => D.str (sN [c]))), some (.bl false), some (.tup [.str "refused", .int 0]), ?_⟩
  unfold bdy
  simp -implicitDefEqProofs (disch := first | exact sh_int | assumption | omega | (simp -implicitDefEqProofs only [List.length_cons, List.length_nil, List.length_map, List.length_append, List.length_reverse, List.length_take, List.length_drop, List.length_set, List.length_replicate, bitsM_len, bitsL_len]; omega) | (simp -implicitDefEqProofs only [sh_int, sh_oI, sh8_pairs, sh8_rows, sh8_row, sh9_row, sh9_p, sh_bl, sh_non, sh9t, sh9l, sh8t, sh8l, sh7t, sh7l, sh6t, sh6l, sh5t, sh5l, sh4t, sh4l, sh_ints, sh_str, List.all_cons, List.all_nil, List.all_append, List.all_reverse, Bool.and_true, Bool.and_self]; done) | (simp -implicitDefEqProofs only [sh_int, sh_oI, sh8_pairs, sh8_rows, sh8_row, sh9_row, sh9_p, sh_bl, sh_non, sh9t, sh9l, sh8t, sh8l, sh7t, sh7l, sh6t, sh6l, sh5t, sh5l, sh4t, sh4l, sh_ints, sh_str, List.all_cons, List.all_nil, List.all_append, List.all_reverse, Bool.and_true, Bool.and_self]; decide +kernel)) only [ev_var, ev_cst, ev_glb, ev_bin, ev_cmp, ev_neg, ev_not, ev_chn, ev_and, ev_or, ev_idx, ev_cut, ev_stp, ev_tup, ev_lst, ev_call, ev_bi, ev_isi, ev_lc, ev_mth, ev_rpl, ev_kin, ev_kget, ev_sst, ev_lss, evs_nil, evs_cons, b1_ok, b2_ok, bs_ok, bcons_ok, band_t, band_f, band_b, bor_t, bor_f, bor_b, b3_ok, dNot_b, dNeg_i, prt_f, prt_t, blc_ok, bit_ok, dTup_ok, dLst_ok, add_ii, sub_ii, mul_l, mul_r, div_ii, mod_ii, add_tt, add_ll, mul_t1i, mul_l1i, lt_ii, le_ii, gt_ii, ge_ii, chn_le, is_bb, isn_bb, is_nn, is_in, isn_nn, isn_in, is_on, isn_on, deq_nn, deq_ni, deq_in, deq_oi, deq_oo, sh_oI, oI_s, oI_n, eq_ok, ne_ok, in_tup, nin_tup, in_lst, nin_lst, sh_int, sh_bl, sh_non, sh_str, sh_ints, deq_ii, deq_bb, deq_ss, deq_tt, deq_ll, deqL_nil, deqL_cons, deqL_nc, deqL_cn, deqL_ints, deqL_pairs, deqL_rows, deq_rr, deq_pp, get_0, get_s, ix_t0, ix_t1, ix_t2, ix_t3, ix_t4, ix_t5, ix_t6, ix_l0, ix_l1, ix_l2, ix_l3, ix_l4, ix_l5, ix_lb, ix_tb, dCut_t, dCut_l, rev_t, rev_l, even_t, odd_t, even_l, odd_l, len_t, len_l, int_b, int_i, tuple_t, tuple_l, list_t, list_l, abs_i, sum_t, sum_l, max_2, min_2, max_3, min_3, all_l, isi_ii, isi_ib, isi_is, isi_it, isi_il, isi_bi, isi_bb, isi_bt, isi_bs, isi_tt, isi_tl, isi_ti, isi_ts, isi_ll, isi_lt, isi_li, isi_ls, isi_ss, isi_si, isi_st, isi_sb, it_t, it_l, it_r1, it_r2, it_et, it_el, it_ztt, it_zll, it_ztl, it_zlt, lcFn_1, lcFn_2, cdR_t, cdR_f, cdR_b, xs_nil, xs_set, xs_own, xs_unp, xs_app, xs_ext, xs_put, kExt_ok, kPut_last, xs_frz, xs_pas, xs_ret, xs_ife, xs_for, kSet_ok, kOwn_ok, kUnp_t, kUnp_l, kApp_ok, kRet_ok, kIf_t, kIf_f, kSeq_n, kSeq_r, kFor_ok, forFn_1, forFn_2, setAll_n, setAll_c, fin_r, fin_n, wipe_n, wipe_c, kGo_n, kGo_r, List.set_cons_zero, List.set_cons_succ, List.cons_append, List.nil_append, List.length_cons, List.length_nil, List.all_cons, List.all_nil, Bool.and_true, Bool.true_and, Bool.and_false, Bool.false_and, Bool.or_true, Bool.true_or, Bool.or_false, Bool.false_or, Bool.not_true, Bool.not_false, decide_true, decide_false, eq_self, Int.cast_ofNat_Int, beq_self_eq_true, s_far_wide, s_far_turn, s_wide_far, s_wide_turn, s_turn_far, s_turn_wide, List.any_cons, List.any_nil, Int.reduceEq, Int.reduceLT, Int.reduceLE, Int.reduceAdd, Int.reduceSub, Int.reduceMul, Int.reduceNeg, Int.reduceToNat, Bool.decide_eq_true, Bool.false_eq_true, ↓reduceIte, List.length_map, bitsM_len, Nat.zero_add, Nat.reduceAdd, call_cf, it_s]
  rw [lcS_fm (gBadC T.length) (by rw [List.length_map]; omega) (fun d hd => by
    obtain ⟨x, hx, rfl⟩ := List.mem_map.mp hd
    have h2 := nin_evyC (c := x) (n := T.length) hT
    have h3 : cOf (.str (sN [x])) = x := rfl
    cases h4 : okC T.length x with
    | true => simp -implicitDefEqProofs (disch := first | exact sh_int | assumption | omega | (simp -implicitDefEqProofs only [List.length_cons, List.length_nil, List.length_map, List.length_append, List.length_reverse, List.length_take, List.length_drop, List.length_set, List.length_replicate, bitsM_len, bitsL_len]; omega) | (simp -implicitDefEqProofs only [sh_int, sh_oI, sh8_pairs, sh8_rows, sh8_row, sh9_row, sh9_p, sh_bl, sh_non, sh9t, sh9l, sh8t, sh8l, sh7t, sh7l, sh6t, sh6l, sh5t, sh5l, sh4t, sh4l, sh_ints, sh_str, List.all_cons, List.all_nil, List.all_append, List.all_reverse, Bool.and_true, Bool.and_self]; done) | (simp -implicitDefEqProofs only [sh_int, sh_oI, sh8_pairs, sh8_rows, sh8_row, sh9_row, sh9_p, sh_bl, sh_non, sh9t, sh9l, sh8t, sh8l, sh7t, sh7l, sh6t, sh6l, sh5t, sh5l, sh4t, sh4l, sh_ints, sh_str, List.all_cons, List.all_nil, List.all_append, List.all_reverse, Bool.and_true, Bool.and_self]; decide +kernel)) only [ev_var, ev_cst, ev_glb, ev_bin, ev_cmp, ev_neg, ev_not, ev_chn, ev_and, ev_or, ev_idx, ev_cut, ev_stp, ev_tup, ev_lst, ev_call, ev_bi, ev_isi, ev_lc, ev_mth, ev_rpl, ev_kin, ev_kget, ev_sst, ev_lss, evs_nil, evs_cons, b1_ok, b2_ok, bs_ok, bcons_ok, band_t, band_f, band_b, bor_t, bor_f, bor_b, b3_ok, dNot_b, dNeg_i, prt_f, prt_t, blc_ok, bit_ok, dTup_ok, dLst_ok, add_ii, sub_ii, mul_l, mul_r, div_ii, mod_ii, add_tt, add_ll, mul_t1i, mul_l1i, lt_ii, le_ii, gt_ii, ge_ii, chn_le, is_bb, isn_bb, is_nn, is_in, isn_nn, isn_in, is_on, isn_on, deq_nn, deq_ni, deq_in, deq_oi, deq_oo, sh_oI, oI_s, oI_n, eq_ok, ne_ok, in_tup, nin_tup, in_lst, nin_lst, sh_int, sh_bl, sh_non, sh_str, sh_ints, deq_ii, deq_bb, deq_ss, deq_tt, deq_ll, deqL_nil, deqL_cons, deqL_nc, deqL_cn, deqL_ints, deqL_pairs, deqL_rows, deq_rr, deq_pp, get_0, get_s, ix_t0, ix_t1, ix_t2, ix_t3, ix_t4, ix_t5, ix_t6, ix_l0, ix_l1, ix_l2, ix_l3, ix_l4, ix_l5, ix_lb, ix_tb, dCut_t, dCut_l, rev_t, rev_l, even_t, odd_t, even_l, odd_l, len_t, len_l, int_b, int_i, tuple_t, tuple_l, list_t, list_l, abs_i, sum_t, sum_l, max_2, min_2, max_3, min_3, all_l, isi_ii, isi_ib, isi_is, isi_it, isi_il, isi_bi, isi_bb, isi_bt, isi_bs, isi_tt, isi_tl, isi_ti, isi_ts, isi_ll, isi_lt, isi_li, isi_ls, isi_ss, isi_si, isi_st, isi_sb, it_t, it_l, it_r1, it_r2, it_et, it_el, it_ztt, it_zll, it_ztl, it_zlt, lcFn_1, lcFn_2, cdR_t, cdR_f, cdR_b, xs_nil, xs_set, xs_own, xs_unp, xs_app, xs_ext, xs_put, kExt_ok, kPut_last, xs_frz, xs_pas, xs_ret, xs_ife, xs_for, kSet_ok, kOwn_ok, kUnp_t, kUnp_l, kApp_ok, kRet_ok, kIf_t, kIf_f, kSeq_n, kSeq_r, kFor_ok, forFn_1, forFn_2, setAll_n, setAll_c, fin_r, fin_n, wipe_n, wipe_c, go_nil, go_cons, kGo_n, kGo_r, List.set_cons_zero, List.set_cons_succ, List.cons_append, List.nil_append, List.length_cons, List.length_nil, List.all_cons, List.all_nil, Bool.and_true, Bool.true_and, Bool.and_false, Bool.false_and, Bool.or_true, Bool.true_or, Bool.or_false, Bool.false_or, Bool.not_true, Bool.not_false, decide_true, decide_false, eq_self, Int.cast_ofNat_Int, beq_self_eq_true, s_far_wide, s_far_turn, s_wide_far, s_wide_turn, s_turn_far, s_turn_wide, List.any_cons, List.any_nil, Int.reduceEq, Int.reduceLT, Int.reduceLE, Int.reduceAdd, Int.reduceSub, Int.reduceMul, Int.reduceNeg, Int.reduceToNat, Bool.decide_eq_true, Bool.false_eq_true, ↓reduceIte, List.length_map, bitsM_len, Nat.zero_add, Nat.reduceAdd, call_cf, len_r, cut_evy, h2, h4, gBadC, h3]
    | false => simp -implicitDefEqProofs (disch := first | exact sh_int | assumption | omega | (simp -implicitDefEqProofs only [List.length_cons, List.length_nil, List.length_map, List.length_append, List.length_reverse, List.length_take, List.length_drop, List.length_set, List.length_replicate, bitsM_len, bitsL_len]; omega) | (simp -implicitDefEqProofs only [sh_int, sh_oI, sh8_pairs, sh8_rows, sh8_row, sh9_row, sh9_p, sh_bl, sh_non, sh9t, sh9l, sh8t, sh8l, sh7t, sh7l, sh6t, sh6l, sh5t, sh5l, sh4t, sh4l, sh_ints, sh_str, List.all_cons, List.all_nil, List.all_append, List.all_reverse, Bool.and_true, Bool.and_self]; done) | (simp -implicitDefEqProofs only [sh_int, sh_oI, sh8_pairs, sh8_rows, sh8_row, sh9_row, sh9_p, sh_bl, sh_non, sh9t, sh9l, sh8t, sh8l, sh7t, sh7l, sh6t, sh6l, sh5t, sh5l, sh4t, sh4l, sh_ints, sh_str, List.all_cons, List.all_nil, List.all_append, List.all_reverse, Bool.and_true, Bool.and_self]; decide +kernel)) only [ev_var, ev_cst, ev_glb, ev_bin, ev_cmp, ev_neg, ev_not, ev_chn, ev_and, ev_or, ev_idx, ev_cut, ev_stp, ev_tup, ev_lst, ev_call, ev_bi, ev_isi, ev_lc, ev_mth, ev_rpl, ev_kin, ev_kget, ev_sst, ev_lss, evs_nil, evs_cons, b1_ok, b2_ok, bs_ok, bcons_ok, band_t, band_f, band_b, bor_t, bor_f, bor_b, b3_ok, dNot_b, dNeg_i, prt_f, prt_t, blc_ok, bit_ok, dTup_ok, dLst_ok, add_ii, sub_ii, mul_l, mul_r, div_ii, mod_ii, add_tt, add_ll, mul_t1i, mul_l1i, lt_ii, le_ii, gt_ii, ge_ii, chn_le, is_bb, isn_bb, is_nn, is_in, isn_nn, isn_in, is_on, isn_on, deq_nn, deq_ni, deq_in, deq_oi, deq_oo, sh_oI, oI_s, oI_n, eq_ok, ne_ok, in_tup, nin_tup, in_lst, nin_lst, sh_int, sh_bl, sh_non, sh_str, sh_ints, deq_ii, deq_bb, deq_ss, deq_tt, deq_ll, deqL_nil, deqL_cons, deqL_nc, deqL_cn, deqL_ints, deqL_pairs, deqL_rows, deq_rr, deq_pp, get_0, get_s, ix_t0, ix_t1, ix_t2, ix_t3, ix_t4, ix_t5, ix_t6, ix_l0, ix_l1, ix_l2, ix_l3, ix_l4, ix_l5, ix_lb, ix_tb, dCut_t, dCut_l, rev_t, rev_l, even_t, odd_t, even_l, odd_l, len_t, len_l, int_b, int_i, tuple_t, tuple_l, list_t, list_l, abs_i, sum_t, sum_l, max_2, min_2, max_3, min_3, all_l, isi_ii, isi_ib, isi_is, isi_it, isi_il, isi_bi, isi_bb, isi_bt, isi_bs, isi_tt, isi_tl, isi_ti, isi_ts, isi_ll, isi_lt, isi_li, isi_ls, isi_ss, isi_si, isi_st, isi_sb, it_t, it_l, it_r1, it_r2, it_et, it_el, it_ztt, it_zll, it_ztl, it_zlt, lcFn_1, lcFn_2, cdR_t, cdR_f, cdR_b, xs_nil, xs_set, xs_own, xs_unp, xs_app, xs_ext, xs_put, kExt_ok, kPut_last, xs_frz, xs_pas, xs_ret, xs_ife, xs_for, kSet_ok, kOwn_ok, kUnp_t, kUnp_l, kApp_ok, kRet_ok, kIf_t, kIf_f, kSeq_n, kSeq_r, kFor_ok, forFn_1, forFn_2, setAll_n, setAll_c, fin_r, fin_n, wipe_n, wipe_c, go_nil, go_cons, kGo_n, kGo_r, List.set_cons_zero, List.set_cons_succ, List.cons_append, List.nil_append, List.length_cons, List.length_nil, List.all_cons, List.all_nil, Bool.and_true, Bool.true_and, Bool.and_false, Bool.false_and, Bool.or_true, Bool.true_or, Bool.or_false, Bool.false_or, Bool.not_true, Bool.not_false, decide_true, decide_false, eq_self, Int.cast_ofNat_Int, beq_self_eq_true, s_far_wide, s_far_turn, s_wide_far, s_wide_turn, s_turn_far, s_turn_wide, List.any_cons, List.any_nil, Int.reduceEq, Int.reduceLT, Int.reduceLE, Int.reduceAdd, Int.reduceSub, Int.reduceMul, Int.reduceNeg, Int.reduceToNat, Bool.decide_eq_true, Bool.false_eq_true, ↓reduceIte, List.length_map, bitsM_len, Nat.zero_add, Nat.reduceAdd, call_cf, len_r, cut_evy, h2, h4, gBadC, h3]), gBadC_map]
  have hsh : shD 9 (.lst ((z.filter fun c => !okC T.length c).map fun c => D.str (sN [c]))) = true := by
    rw [sh9l, List.all_map]
    refine List.all_eq_true.mpr fun x hx => sh_sN fun c hc' => ?_
    rw [List.mem_singleton] at hc'
    subst hc'
    exact hc _ (List.mem_filter.mp hx).1
  have hgood : decide (((z.length : Nat) : Int) % 2 = 1) = true → ((z.filter fun c => !okC T.length c).map fun c => D.str (sN [c])).isEmpty = false := fun q => by
    have q := of_decide_eq_true q
    rcases h with h | ⟨x, hx, hx2⟩
    · omega
    · rw [List.isEmpty_eq_false_iff]
      intro z0
      have z1 := List.map_eq_nil_iff.mp z0
      have : x ∈ z.filter fun c => !okC T.length c := List.mem_filter.mpr ⟨hx, by rw [hx2]; rfl⟩
      rw [z1] at this
      exact nomatch this
  by_cases c : ((z.length : Nat) : Int) % 2 = 1
  · have := hgood (decide_eq_true c)
    simp -implicitDefEqProofs (disch := first | exact sh_int | assumption | omega | (simp -implicitDefEqProofs only [List.length_cons, List.length_nil, List.length_map, List.length_append, List.length_reverse, List.length_take, List.length_drop, List.length_set, List.length_replicate, bitsM_len, bitsL_len]; omega) | (simp -implicitDefEqProofs only [sh_int, sh_oI, sh8_pairs, sh8_rows, sh8_row, sh9_row, sh9_p, sh_bl, sh_non, sh9t, sh9l, sh8t, sh8l, sh7t, sh7l, sh6t, sh6l, sh5t, sh5l, sh4t, sh4l, sh_ints, sh_str, List.all_cons, List.all_nil, List.all_append, List.all_reverse, Bool.and_true, Bool.and_self]; done) | (simp -implicitDefEqProofs only [sh_int, sh_oI, sh8_pairs, sh8_rows, sh8_row, sh9_row, sh9_p, sh_bl, sh_non, sh9t, sh9l, sh8t, sh8l, sh7t, sh7l, sh6t, sh6l, sh5t, sh5l, sh4t, sh4l, sh_ints, sh_str, List.all_cons, List.all_nil, List.all_append, List.all_reverse, Bool.and_true, Bool.and_self]; decide +kernel)) only [ev_var, ev_cst, ev_glb, ev_bin, ev_cmp, ev_neg, ev_not, ev_chn, ev_and, ev_or, ev_idx, ev_cut, ev_stp, ev_tup, ev_lst, ev_call, ev_bi, ev_isi, ev_lc, ev_mth, ev_rpl, ev_kin, ev_kget, ev_sst, ev_lss, evs_nil, evs_cons, b1_ok, b2_ok, bs_ok, bcons_ok, band_t, band_f, band_b, bor_t, bor_f, bor_b, b3_ok, dNot_b, dNeg_i, prt_f, prt_t, blc_ok, bit_ok, dTup_ok, dLst_ok, add_ii, sub_ii, mul_l, mul_r, div_ii, mod_ii, add_tt, add_ll, mul_t1i, mul_l1i, lt_ii, le_ii, gt_ii, ge_ii, chn_le, is_bb, isn_bb, is_nn, is_in, isn_nn, isn_in, is_on, isn_on, deq_nn, deq_ni, deq_in, deq_oi, deq_oo, sh_oI, oI_s, oI_n, eq_ok, ne_ok, in_tup, nin_tup, in_lst, nin_lst, sh_int, sh_bl, sh_non, sh_str, sh_ints, deq_ii, deq_bb, deq_ss, deq_tt, deq_ll, deqL_nil, deqL_cons, deqL_nc, deqL_cn, deqL_ints, deqL_pairs, deqL_rows, deq_rr, deq_pp, get_0, get_s, ix_t0, ix_t1, ix_t2, ix_t3, ix_t4, ix_t5, ix_t6, ix_l0, ix_l1, ix_l2, ix_l3, ix_l4, ix_l5, ix_lb, ix_tb, dCut_t, dCut_l, rev_t, rev_l, even_t, odd_t, even_l, odd_l, len_t, len_l, int_b, int_i, tuple_t, tuple_l, list_t, list_l, abs_i, sum_t, sum_l, max_2, min_2, max_3, min_3, all_l, isi_ii, isi_ib, isi_is, isi_it, isi_il, isi_bi, isi_bb, isi_bt, isi_bs, isi_tt, isi_tl, isi_ti, isi_ts, isi_ll, isi_lt, isi_li, isi_ls, isi_ss, isi_si, isi_st, isi_sb, it_t, it_l, it_r1, it_r2, it_et, it_el, it_ztt, it_zll, it_ztl, it_zlt, lcFn_1, lcFn_2, cdR_t, cdR_f, cdR_b, xs_nil, xs_set, xs_own, xs_unp, xs_app, xs_ext, xs_put, kExt_ok, kPut_last, xs_frz, xs_pas, xs_ret, xs_ife, xs_for, kSet_ok, kOwn_ok, kUnp_t, kUnp_l, kApp_ok, kRet_ok, kIf_t, kIf_f, kSeq_n, kSeq_r, kFor_ok, forFn_1, forFn_2, setAll_n, setAll_c, fin_r, fin_n, wipe_n, wipe_c, kGo_n, kGo_r, List.set_cons_zero, List.set_cons_succ, List.cons_append, List.nil_append, List.length_cons, List.length_nil, List.all_cons, List.all_nil, Bool.and_true, Bool.true_and, Bool.and_false, Bool.false_and, Bool.or_true, Bool.true_or, Bool.or_false, Bool.false_or, Bool.not_true, Bool.not_false, decide_true, decide_false, eq_self, Int.cast_ofNat_Int, beq_self_eq_true, s_far_wide, s_far_turn, s_wide_far, s_wide_turn, s_turn_far, s_turn_wide, List.any_cons, List.any_nil, Int.reduceEq, Int.reduceLT, Int.reduceLE, Int.reduceAdd, Int.reduceSub, Int.reduceMul, Int.reduceNeg, Int.reduceToNat, Bool.decide_eq_true, Bool.false_eq_true, ↓reduceIte, List.length_map, bitsM_len, Nat.zero_add, Nat.reduceAdd, call_cf, el, c, deqL_n, this, hsh, xs_told, kT, s_rt, List.isEmpty_nil]
  · simp -implicitDefEqProofs (disch := first | exact sh_int | assumption | omega | (simp -implicitDefEqProofs only [List.length_cons, List.length_nil, List.length_map, List.length_append, List.length_reverse, List.length_take, List.length_drop, List.length_set, List.length_replicate, bitsM_len, bitsL_len]; omega) | (simp -implicitDefEqProofs only [sh_int, sh_oI, sh8_pairs, sh8_rows, sh8_row, sh9_row, sh9_p, sh_bl, sh_non, sh9t, sh9l, sh8t, sh8l, sh7t, sh7l, sh6t, sh6l, sh5t, sh5l, sh4t, sh4l, sh_ints, sh_str, List.all_cons, List.all_nil, List.all_append, List.all_reverse, Bool.and_true, Bool.and_self]; done) | (simp -implicitDefEqProofs only [sh_int, sh_oI, sh8_pairs, sh8_rows, sh8_row, sh9_row, sh9_p, sh_bl, sh_non, sh9t, sh9l, sh8t, sh8l, sh7t, sh7l, sh6t, sh6l, sh5t, sh5l, sh4t, sh4l, sh_ints, sh_str, List.all_cons, List.all_nil, List.all_append, List.all_reverse, Bool.and_true, Bool.and_self]; decide +kernel)) only [ev_var, ev_cst, ev_glb, ev_bin, ev_cmp, ev_neg, ev_not, ev_chn, ev_and, ev_or, ev_idx, ev_cut, ev_stp, ev_tup, ev_lst, ev_call, ev_bi, ev_isi, ev_lc, ev_mth, ev_rpl, ev_kin, ev_kget, ev_sst, ev_lss, evs_nil, evs_cons, b1_ok, b2_ok, bs_ok, bcons_ok, band_t, band_f, band_b, bor_t, bor_f, bor_b, b3_ok, dNot_b, dNeg_i, prt_f, prt_t, blc_ok, bit_ok, dTup_ok, dLst_ok, add_ii, sub_ii, mul_l, mul_r, div_ii, mod_ii, add_tt, add_ll, mul_t1i, mul_l1i, lt_ii, le_ii, gt_ii, ge_ii, chn_le, is_bb, isn_bb, is_nn, is_in, isn_nn, isn_in, is_on, isn_on, deq_nn, deq_ni, deq_in, deq_oi, deq_oo, sh_oI, oI_s, oI_n, eq_ok, ne_ok, in_tup, nin_tup, in_lst, nin_lst, sh_int, sh_bl, sh_non, sh_str, sh_ints, deq_ii, deq_bb, deq_ss, deq_tt, deq_ll, deqL_nil, deqL_cons, deqL_nc, deqL_cn, deqL_ints, deqL_pairs, deqL_rows, deq_rr, deq_pp, get_0, get_s, ix_t0, ix_t1, ix_t2, ix_t3, ix_t4, ix_t5, ix_t6, ix_l0, ix_l1, ix_l2, ix_l3, ix_l4, ix_l5, ix_lb, ix_tb, dCut_t, dCut_l, rev_t, rev_l, even_t, odd_t, even_l, odd_l, len_t, len_l, int_b, int_i, tuple_t, tuple_l, list_t, list_l, abs_i, sum_t, sum_l, max_2, min_2, max_3, min_3, all_l, isi_ii, isi_ib, isi_is, isi_it, isi_il, isi_bi, isi_bb, isi_bt, isi_bs, isi_tt, isi_tl, isi_ti, isi_ts, isi_ll, isi_lt, isi_li, isi_ls, isi_ss, isi_si, isi_st, isi_sb, it_t, it_l, it_r1, it_r2, it_et, it_el, it_ztt, it_zll, it_ztl, it_zlt, lcFn_1, lcFn_2, cdR_t, cdR_f, cdR_b, xs_nil, xs_set, xs_own, xs_unp, xs_app, xs_ext, xs_put, kExt_ok, kPut_last, xs_frz, xs_pas, xs_ret, xs_ife, xs_for, kSet_ok, kOwn_ok, kUnp_t, kUnp_l, kApp_ok, kRet_ok, kIf_t, kIf_f, kSeq_n, kSeq_r, kFor_ok, forFn_1, forFn_2, setAll_n, setAll_c, fin_r, fin_n, wipe_n, wipe_c, kGo_n, kGo_r, List.set_cons_zero, List.set_cons_succ, List.cons_append, List.nil_append, List.length_cons, List.length_nil, List.all_cons, List.all_nil, Bool.and_true, Bool.true_and, Bool.and_false, Bool.false_and, Bool.or_true, Bool.true_or, Bool.or_false, Bool.false_or, Bool.not_true, Bool.not_false, decide_true, decide_false, eq_self, Int.cast_ofNat_Int, beq_self_eq_true, s_far_wide, s_far_turn, s_wide_far, s_wide_turn, s_turn_far, s_turn_wide, List.any_cons, List.any_nil, Int.reduceEq, Int.reduceLT, Int.reduceLE, Int.reduceAdd, Int.reduceSub, Int.reduceMul, Int.reduceNeg, Int.reduceToNat, Bool.decide_eq_true, Bool.false_eq_true, ↓reduceIte, List.length_map, bitsM_len, Nat.zero_add, Nat.reduceAdd, call_cf, el, c, xs_told, kT, s_rt]
theorem wide_27 : lrnL ((List.range 27).map fun i : Nat => 3 * (i : Int) + 1) 1 = (List.range 27).map fun i : Nat => 3 * (i : Int) + 2 := by decide +kernel
theorem wide_25 : lrnL ((List.range 25).map fun i : Nat => 3 * (i : Int) + 1) 1 = (List.range 25).map fun i : Nat => 3 * (i : Int) + 2 := by decide +kernel
theorem rx_tf {n : Nat} {ds : List D} (h : ds.length = 2) : runX pg (n + 1) "times_for" ds = none := by
  match ds, h with
  | [a, b], _ =>
    rw [rx_times_for]
    exact xr_calm
theorem room_no {n : Nat} : (cf (n + 2)).call "learnt" [rowD ((List.range 27).map fun i : Nat => 3 * (i : Int) + 1), .int 1] = .bad ∧ (cf (n + 2)).xc "learnt" [rowD ((List.range 27).map fun i : Nat => 3 * (i : Int) + 1), .int 1] = some ("NoRoom" : Str) := by
  have gL : oR ((cf (n + 1)).glb.lookup ("LETTERS" : Str)) = .ok (.str ABC) := rfl
  have e1 := r_times (n := n) ((List.range 27).map fun i : Nat => 3 * (i : Int) + 1) 1 (by decide)
  rw [wide_27] at e1
  generalize hW : ((List.range 27).map fun i : Nat => 3 * (i : Int) + 1) = W at e1
  have hT : ((List.range 27).map fun i : Nat => 3 * (i : Int) + 2).length = 27 := by decide
  generalize ((List.range 27).map fun i : Nat => 3 * (i : Int) + 2) = T at e1 hT
  have eT : dBi .len [rowD T] = .ok (.int 27) := by rw [len_r, hT]; rfl
  rw [call_cf, xc_cf, run_learnt, rx_learnt, f_learnt]
  refine ⟨?_, ?_⟩
  · simp -implicitDefEqProofs (disch := first | exact sh_int | assumption | omega | (simp -implicitDefEqProofs only [List.length_cons, List.length_nil, List.length_map, List.length_append, List.length_reverse, List.length_take, List.length_drop, List.length_set, List.length_replicate, bitsM_len, bitsL_len]; omega) | (simp -implicitDefEqProofs only [sh_int, sh_oI, sh8_pairs, sh8_rows, sh8_row, sh9_row, sh9_p, sh_bl, sh_non, sh9t, sh9l, sh8t, sh8l, sh7t, sh7l, sh6t, sh6l, sh5t, sh5l, sh4t, sh4l, sh_ints, sh_str, List.all_cons, List.all_nil, List.all_append, List.all_reverse, Bool.and_true, Bool.and_self]; done) | (simp -implicitDefEqProofs only [sh_int, sh_oI, sh8_pairs, sh8_rows, sh8_row, sh9_row, sh9_p, sh_bl, sh_non, sh9t, sh9l, sh8t, sh8l, sh7t, sh7l, sh6t, sh6l, sh5t, sh5l, sh4t, sh4l, sh_ints, sh_str, List.all_cons, List.all_nil, List.all_append, List.all_reverse, Bool.and_true, Bool.and_self]; decide +kernel)) only [ev_var, ev_cst, ev_glb, ev_bin, ev_cmp, ev_neg, ev_not, ev_chn, ev_and, ev_or, ev_idx, ev_cut, ev_stp, ev_tup, ev_lst, ev_call, ev_bi, ev_isi, ev_lc, ev_mth, ev_rpl, ev_kin, ev_kget, ev_sst, ev_lss, evs_nil, evs_cons, b1_ok, b2_ok, bs_ok, bcons_ok, band_t, band_f, band_b, bor_t, bor_f, bor_b, b3_ok, dNot_b, dNeg_i, prt_f, prt_t, blc_ok, bit_ok, dTup_ok, dLst_ok, add_ii, sub_ii, mul_l, mul_r, div_ii, mod_ii, add_tt, add_ll, mul_t1i, mul_l1i, lt_ii, le_ii, gt_ii, ge_ii, chn_le, is_bb, isn_bb, is_nn, is_in, isn_nn, isn_in, is_on, isn_on, deq_nn, deq_ni, deq_in, deq_oi, deq_oo, sh_oI, oI_s, oI_n, eq_ok, ne_ok, in_tup, nin_tup, in_lst, nin_lst, sh_int, sh_bl, sh_non, sh_str, sh_ints, deq_ii, deq_bb, deq_ss, deq_tt, deq_ll, deqL_nil, deqL_cons, deqL_nc, deqL_cn, deqL_ints, deqL_pairs, deqL_rows, deq_rr, deq_pp, get_0, get_s, ix_t0, ix_t1, ix_t2, ix_t3, ix_t4, ix_t5, ix_t6, ix_l0, ix_l1, ix_l2, ix_l3, ix_l4, ix_l5, ix_lb, ix_tb, dCut_t, dCut_l, rev_t, rev_l, even_t, odd_t, even_l, odd_l, len_t, len_l, int_b, int_i, tuple_t, tuple_l, list_t, list_l, abs_i, sum_t, sum_l, max_2, min_2, max_3, min_3, all_l, isi_ii, isi_ib, isi_is, isi_it, isi_il, isi_bi, isi_bb, isi_bt, isi_bs, isi_tt, isi_tl, isi_ti, isi_ts, isi_ll, isi_lt, isi_li, isi_ls, isi_ss, isi_si, isi_st, isi_sb, it_t, it_l, it_r1, it_r2, it_et, it_el, it_ztt, it_zll, it_ztl, it_zlt, lcFn_1, lcFn_2, cdR_t, cdR_f, cdR_b, xs_nil, xs_set, xs_own, xs_unp, xs_app, xs_ext, xs_put, kExt_ok, kPut_last, xs_frz, xs_pas, xs_ret, xs_ife, xs_for, kSet_ok, kOwn_ok, kUnp_t, kUnp_l, kApp_ok, kRet_ok, kIf_t, kIf_f, kSeq_n, kSeq_r, kFor_ok, forFn_1, forFn_2, setAll_n, setAll_c, fin_r, fin_n, wipe_n, wipe_c, kGo_n, kGo_r, List.set_cons_zero, List.set_cons_succ, List.cons_append, List.nil_append, List.length_cons, List.length_nil, List.all_cons, List.all_nil, Bool.and_true, Bool.true_and, Bool.and_false, Bool.false_and, Bool.or_true, Bool.true_or, Bool.or_false, Bool.false_or, Bool.not_true, Bool.not_false, decide_true, decide_false, eq_self, Int.cast_ofNat_Int, beq_self_eq_true, s_far_wide, s_far_turn, s_wide_far, s_wide_turn, s_turn_far, s_turn_wide, List.any_cons, List.any_nil, Int.reduceEq, Int.reduceLT, Int.reduceLE, Int.reduceAdd, Int.reduceSub, Int.reduceMul, Int.reduceNeg, Int.reduceToNat, Bool.decide_eq_true, Bool.false_eq_true, ↓reduceIte, List.length_map, bitsM_len, Nat.zero_add, Nat.reduceAdd, call_cf, e1, gL, eT, len_abc, xs_rse]
    rfl
  · have x1 : xev (cf (n + 1)) (.call "times_for" [.var 0, .var 1]) [some (rowD W), some (.int 1), none, none] = none := by
      show (match evs (cf (n + 1)) [.var 0, .var 1] [some (rowD W), some (.int 1), none, none] with
        | .ok ds => (cf (n + 1)).xc "times_for" ds
        | _ => none) = none
      have : evs (cf (n + 1)) [.var 0, .var 1] [some (rowD W), some (.int 1), none, none] = .ok [rowD W, .int 1] := by simp -implicitDefEqProofs (disch := first | exact sh_int | assumption | omega | (simp -implicitDefEqProofs only [List.length_cons, List.length_nil, List.length_map, List.length_append, List.length_reverse, List.length_take, List.length_drop, List.length_set, List.length_replicate, bitsM_len, bitsL_len]; omega) | (simp -implicitDefEqProofs only [sh_int, sh_oI, sh8_pairs, sh8_rows, sh8_row, sh9_row, sh9_p, sh_bl, sh_non, sh9t, sh9l, sh8t, sh8l, sh7t, sh7l, sh6t, sh6l, sh5t, sh5l, sh4t, sh4l, sh_ints, sh_str, List.all_cons, List.all_nil, List.all_append, List.all_reverse, Bool.and_true, Bool.and_self]; done) | (simp -implicitDefEqProofs only [sh_int, sh_oI, sh8_pairs, sh8_rows, sh8_row, sh9_row, sh9_p, sh_bl, sh_non, sh9t, sh9l, sh8t, sh8l, sh7t, sh7l, sh6t, sh6l, sh5t, sh5l, sh4t, sh4l, sh_ints, sh_str, List.all_cons, List.all_nil, List.all_append, List.all_reverse, Bool.and_true, Bool.and_self]; decide +kernel)) only [ev_var, ev_cst, ev_glb, ev_bin, ev_cmp, ev_neg, ev_not, ev_chn, ev_and, ev_or, ev_idx, ev_cut, ev_stp, ev_tup, ev_lst, ev_call, ev_bi, ev_isi, ev_lc, ev_mth, ev_rpl, ev_kin, ev_kget, ev_sst, ev_lss, evs_nil, evs_cons, b1_ok, b2_ok, bs_ok, bcons_ok, band_t, band_f, band_b, bor_t, bor_f, bor_b, b3_ok, dNot_b, dNeg_i, prt_f, prt_t, blc_ok, bit_ok, dTup_ok, dLst_ok, add_ii, sub_ii, mul_l, mul_r, div_ii, mod_ii, add_tt, add_ll, mul_t1i, mul_l1i, lt_ii, le_ii, gt_ii, ge_ii, chn_le, is_bb, isn_bb, is_nn, is_in, isn_nn, isn_in, is_on, isn_on, deq_nn, deq_ni, deq_in, deq_oi, deq_oo, sh_oI, oI_s, oI_n, eq_ok, ne_ok, in_tup, nin_tup, in_lst, nin_lst, sh_int, sh_bl, sh_non, sh_str, sh_ints, deq_ii, deq_bb, deq_ss, deq_tt, deq_ll, deqL_nil, deqL_cons, deqL_nc, deqL_cn, deqL_ints, deqL_pairs, deqL_rows, deq_rr, deq_pp, get_0, get_s, ix_t0, ix_t1, ix_t2, ix_t3, ix_t4, ix_t5, ix_t6, ix_l0, ix_l1, ix_l2, ix_l3, ix_l4, ix_l5, ix_lb, ix_tb, dCut_t, dCut_l, rev_t, rev_l, even_t, odd_t, even_l, odd_l, len_t, len_l, int_b, int_i, tuple_t, tuple_l, list_t, list_l, abs_i, sum_t, sum_l, max_2, min_2, max_3, min_3, all_l, isi_ii, isi_ib, isi_is, isi_it, isi_il, isi_bi, isi_bb, isi_bt, isi_bs, isi_tt, isi_tl, isi_ti, isi_ts, isi_ll, isi_lt, isi_li, isi_ls, isi_ss, isi_si, isi_st, isi_sb, it_t, it_l, it_r1, it_r2, it_et, it_el, it_ztt, it_zll, it_ztl, it_zlt, lcFn_1, lcFn_2, cdR_t, cdR_f, cdR_b, xs_nil, xs_set, xs_own, xs_unp, xs_app, xs_ext, xs_put, kExt_ok, kPut_last, xs_frz, xs_pas, xs_ret, xs_ife, xs_for, kSet_ok, kOwn_ok, kUnp_t, kUnp_l, kApp_ok, kRet_ok, kIf_t, kIf_f, kSeq_n, kSeq_r, kFor_ok, forFn_1, forFn_2, setAll_n, setAll_c, fin_r, fin_n, wipe_n, wipe_c, go_nil, go_cons, kGo_n, kGo_r, List.set_cons_zero, List.set_cons_succ, List.cons_append, List.nil_append, List.length_cons, List.length_nil, List.all_cons, List.all_nil, Bool.and_true, Bool.true_and, Bool.and_false, Bool.false_and, Bool.or_true, Bool.true_or, Bool.or_false, Bool.false_or, Bool.not_true, Bool.not_false, decide_true, decide_false, eq_self, Int.cast_ofNat_Int, beq_self_eq_true, s_far_wide, s_far_turn, s_wide_far, s_wide_turn, s_turn_far, s_turn_wide, List.any_cons, List.any_nil, Int.reduceEq, Int.reduceLT, Int.reduceLE, Int.reduceAdd, Int.reduceSub, Int.reduceMul, Int.reduceNeg, Int.reduceToNat, Bool.decide_eq_true, Bool.false_eq_true, ↓reduceIte, List.length_map, bitsM_len, Nat.zero_add, Nat.reduceAdd, call_cf]
      rw [this]
      exact rx_tf (ds := [rowD W, .int 1]) rfl
    have x2 : ev (cf (n + 1)) (.call "times_for" [.var 0, .var 1]) [some (rowD W), some (.int 1), none, none] = .ok (rowD T) := by simp -implicitDefEqProofs (disch := first | exact sh_int | assumption | omega | (simp -implicitDefEqProofs only [List.length_cons, List.length_nil, List.length_map, List.length_append, List.length_reverse, List.length_take, List.length_drop, List.length_set, List.length_replicate, bitsM_len, bitsL_len]; omega) | (simp -implicitDefEqProofs only [sh_int, sh_oI, sh8_pairs, sh8_rows, sh8_row, sh9_row, sh9_p, sh_bl, sh_non, sh9t, sh9l, sh8t, sh8l, sh7t, sh7l, sh6t, sh6l, sh5t, sh5l, sh4t, sh4l, sh_ints, sh_str, List.all_cons, List.all_nil, List.all_append, List.all_reverse, Bool.and_true, Bool.and_self]; done) | (simp -implicitDefEqProofs only [sh_int, sh_oI, sh8_pairs, sh8_rows, sh8_row, sh9_row, sh9_p, sh_bl, sh_non, sh9t, sh9l, sh8t, sh8l, sh7t, sh7l, sh6t, sh6l, sh5t, sh5l, sh4t, sh4l, sh_ints, sh_str, List.all_cons, List.all_nil, List.all_append, List.all_reverse, Bool.and_true, Bool.and_self]; decide +kernel)) only [ev_var, ev_cst, ev_glb, ev_bin, ev_cmp, ev_neg, ev_not, ev_chn, ev_and, ev_or, ev_idx, ev_cut, ev_stp, ev_tup, ev_lst, ev_call, ev_bi, ev_isi, ev_lc, ev_mth, ev_rpl, ev_kin, ev_kget, ev_sst, ev_lss, evs_nil, evs_cons, b1_ok, b2_ok, bs_ok, bcons_ok, band_t, band_f, band_b, bor_t, bor_f, bor_b, b3_ok, dNot_b, dNeg_i, prt_f, prt_t, blc_ok, bit_ok, dTup_ok, dLst_ok, add_ii, sub_ii, mul_l, mul_r, div_ii, mod_ii, add_tt, add_ll, mul_t1i, mul_l1i, lt_ii, le_ii, gt_ii, ge_ii, chn_le, is_bb, isn_bb, is_nn, is_in, isn_nn, isn_in, is_on, isn_on, deq_nn, deq_ni, deq_in, deq_oi, deq_oo, sh_oI, oI_s, oI_n, eq_ok, ne_ok, in_tup, nin_tup, in_lst, nin_lst, sh_int, sh_bl, sh_non, sh_str, sh_ints, deq_ii, deq_bb, deq_ss, deq_tt, deq_ll, deqL_nil, deqL_cons, deqL_nc, deqL_cn, deqL_ints, deqL_pairs, deqL_rows, deq_rr, deq_pp, get_0, get_s, ix_t0, ix_t1, ix_t2, ix_t3, ix_t4, ix_t5, ix_t6, ix_l0, ix_l1, ix_l2, ix_l3, ix_l4, ix_l5, ix_lb, ix_tb, dCut_t, dCut_l, rev_t, rev_l, even_t, odd_t, even_l, odd_l, len_t, len_l, int_b, int_i, tuple_t, tuple_l, list_t, list_l, abs_i, sum_t, sum_l, max_2, min_2, max_3, min_3, all_l, isi_ii, isi_ib, isi_is, isi_it, isi_il, isi_bi, isi_bb, isi_bt, isi_bs, isi_tt, isi_tl, isi_ti, isi_ts, isi_ll, isi_lt, isi_li, isi_ls, isi_ss, isi_si, isi_st, isi_sb, it_t, it_l, it_r1, it_r2, it_et, it_el, it_ztt, it_zll, it_ztl, it_zlt, lcFn_1, lcFn_2, cdR_t, cdR_f, cdR_b, xs_nil, xs_set, xs_own, xs_unp, xs_app, xs_ext, xs_put, kExt_ok, kPut_last, xs_frz, xs_pas, xs_ret, xs_ife, xs_for, kSet_ok, kOwn_ok, kUnp_t, kUnp_l, kApp_ok, kRet_ok, kIf_t, kIf_f, kSeq_n, kSeq_r, kFor_ok, forFn_1, forFn_2, setAll_n, setAll_c, fin_r, fin_n, wipe_n, wipe_c, go_nil, go_cons, kGo_n, kGo_r, List.set_cons_zero, List.set_cons_succ, List.cons_append, List.nil_append, List.length_cons, List.length_nil, List.all_cons, List.all_nil, Bool.and_true, Bool.true_and, Bool.and_false, Bool.false_and, Bool.or_true, Bool.true_or, Bool.or_false, Bool.false_or, Bool.not_true, Bool.not_false, decide_true, decide_false, eq_self, Int.cast_ofNat_Int, beq_self_eq_true, s_far_wide, s_far_turn, s_wide_far, s_wide_turn, s_turn_far, s_turn_wide, List.any_cons, List.any_nil, Int.reduceEq, Int.reduceLT, Int.reduceLE, Int.reduceAdd, Int.reduceSub, Int.reduceMul, Int.reduceNeg, Int.reduceToNat, Bool.decide_eq_true, Bool.false_eq_true, ↓reduceIte, List.length_map, bitsM_len, Nat.zero_add, Nat.reduceAdd, call_cf, e1]
    rw [xr_set x1 x2]
    have x3 : ev (cf (n + 1)) (.cmp .Gt (.bi .len [.var 2]) (.bi .len [.glb "LETTERS"])) [some (rowD W), some (.int 1), some (rowD T), none] = .ok (.bl true) := by simp -implicitDefEqProofs (disch := first | exact sh_int | assumption | omega | (simp -implicitDefEqProofs only [List.length_cons, List.length_nil, List.length_map, List.length_append, List.length_reverse, List.length_take, List.length_drop, List.length_set, List.length_replicate, bitsM_len, bitsL_len]; omega) | (simp -implicitDefEqProofs only [sh_int, sh_oI, sh8_pairs, sh8_rows, sh8_row, sh9_row, sh9_p, sh_bl, sh_non, sh9t, sh9l, sh8t, sh8l, sh7t, sh7l, sh6t, sh6l, sh5t, sh5l, sh4t, sh4l, sh_ints, sh_str, List.all_cons, List.all_nil, List.all_append, List.all_reverse, Bool.and_true, Bool.and_self]; done) | (simp -implicitDefEqProofs only [sh_int, sh_oI, sh8_pairs, sh8_rows, sh8_row, sh9_row, sh9_p, sh_bl, sh_non, sh9t, sh9l, sh8t, sh8l, sh7t, sh7l, sh6t, sh6l, sh5t, sh5l, sh4t, sh4l, sh_ints, sh_str, List.all_cons, List.all_nil, List.all_append, List.all_reverse, Bool.and_true, Bool.and_self]; decide +kernel)) only [ev_var, ev_cst, ev_glb, ev_bin, ev_cmp, ev_neg, ev_not, ev_chn, ev_and, ev_or, ev_idx, ev_cut, ev_stp, ev_tup, ev_lst, ev_call, ev_bi, ev_isi, ev_lc, ev_mth, ev_rpl, ev_kin, ev_kget, ev_sst, ev_lss, evs_nil, evs_cons, b1_ok, b2_ok, bs_ok, bcons_ok, band_t, band_f, band_b, bor_t, bor_f, bor_b, b3_ok, dNot_b, dNeg_i, prt_f, prt_t, blc_ok, bit_ok, dTup_ok, dLst_ok, add_ii, sub_ii, mul_l, mul_r, div_ii, mod_ii, add_tt, add_ll, mul_t1i, mul_l1i, lt_ii, le_ii, gt_ii, ge_ii, chn_le, is_bb, isn_bb, is_nn, is_in, isn_nn, isn_in, is_on, isn_on, deq_nn, deq_ni, deq_in, deq_oi, deq_oo, sh_oI, oI_s, oI_n, eq_ok, ne_ok, in_tup, nin_tup, in_lst, nin_lst, sh_int, sh_bl, sh_non, sh_str, sh_ints, deq_ii, deq_bb, deq_ss, deq_tt, deq_ll, deqL_nil, deqL_cons, deqL_nc, deqL_cn, deqL_ints, deqL_pairs, deqL_rows, deq_rr, deq_pp, get_0, get_s, ix_t0, ix_t1, ix_t2, ix_t3, ix_t4, ix_t5, ix_t6, ix_l0, ix_l1, ix_l2, ix_l3, ix_l4, ix_l5, ix_lb, ix_tb, dCut_t, dCut_l, rev_t, rev_l, even_t, odd_t, even_l, odd_l, len_t, len_l, int_b, int_i, tuple_t, tuple_l, list_t, list_l, abs_i, sum_t, sum_l, max_2, min_2, max_3, min_3, all_l, isi_ii, isi_ib, isi_is, isi_it, isi_il, isi_bi, isi_bb, isi_bt, isi_bs, isi_tt, isi_tl, isi_ti, isi_ts, isi_ll, isi_lt, isi_li, isi_ls, isi_ss, isi_si, isi_st, isi_sb, it_t, it_l, it_r1, it_r2, it_et, it_el, it_ztt, it_zll, it_ztl, it_zlt, lcFn_1, lcFn_2, cdR_t, cdR_f, cdR_b, xs_nil, xs_set, xs_own, xs_unp, xs_app, xs_ext, xs_put, kExt_ok, kPut_last, xs_frz, xs_pas, xs_ret, xs_ife, xs_for, kSet_ok, kOwn_ok, kUnp_t, kUnp_l, kApp_ok, kRet_ok, kIf_t, kIf_f, kSeq_n, kSeq_r, kFor_ok, forFn_1, forFn_2, setAll_n, setAll_c, fin_r, fin_n, wipe_n, wipe_c, go_nil, go_cons, kGo_n, kGo_r, List.set_cons_zero, List.set_cons_succ, List.cons_append, List.nil_append, List.length_cons, List.length_nil, List.all_cons, List.all_nil, Bool.and_true, Bool.true_and, Bool.and_false, Bool.false_and, Bool.or_true, Bool.true_or, Bool.or_false, Bool.false_or, Bool.not_true, Bool.not_false, decide_true, decide_false, eq_self, Int.cast_ofNat_Int, beq_self_eq_true, s_far_wide, s_far_turn, s_wide_far, s_wide_turn, s_turn_far, s_turn_wide, List.any_cons, List.any_nil, Int.reduceEq, Int.reduceLT, Int.reduceLE, Int.reduceAdd, Int.reduceSub, Int.reduceMul, Int.reduceNeg, Int.reduceToNat, Bool.decide_eq_true, Bool.false_eq_true, ↓reduceIte, List.length_map, bitsM_len, Nat.zero_add, Nat.reduceAdd, call_cf, gL, eT, len_abc]
    rw [show ([some (rowD W), some (.int 1), none, none] : Rho).set 2 (some (rowD T)) = [some (rowD W), some (.int 1), some (rowD T), none] from rfl, xr_ife x3]
    exact xr_rse
theorem law_true (ns : List Int) (hl : ns.length ≤ 63) : lawR 5 (.lst (ns.map D.int)) = .ok (.bl true) := by
  obtain ⟨m0, e0, a0, b0⟩ := r_mixed (n := 3) ns 0 (by decide) (by decide)
  obtain ⟨m1, e1, a1, b1⟩ := r_mixed (n := 3) ns 1 (by decide) (by decide)
  have hx : ∃ row slip, xss (cf 5) 100000 (f_law.body.take 3) [some (.lst (ns.map D.int)), none, none, none, none, none, none, none, none, none, none, none, none, none, none, none, none] = .ok (.nx [some (.lst (ns.map D.int)), some (.int m0), some (rowD row), some (.int slip), none, none, none, none, none, none, none, none, none, none, none, none, none]) ∧ 0 ≤ slip ∧ row.length % 2 = 1 ∧ row.length ≤ 26 := by
    obtain ⟨w, ew, hw1⟩ : ∃ w, dIdx (.tup [.int 1, .int 4, .int 40, .int 500]) (.int (m0 / 4096 % 4)) = .ok (.int w) ∧ 1 ≤ w := by
      have : m0 / 4096 % 4 = 0 ∨ m0 / 4096 % 4 = 1 ∨ m0 / 4096 % 4 = 2 ∨ m0 / 4096 % 4 = 3 := by omega
      rcases this with z | z | z | z <;> rw [z]
      · exact ⟨1, ix_t0, by decide⟩
      · exact ⟨4, ix_t1, by decide⟩
      · exact ⟨40, ix_t2, by decide⟩
      · exact ⟨500, ix_t3, by decide⟩
    obtain ⟨sp, es, hs1⟩ : ∃ w, dIdx (.tup [.int 9, .int 60, .int 900, .int 3]) (.int (m0 % 4)) = .ok (.int w) ∧ 1 ≤ w := by
      have : m0 % 4 = 0 ∨ m0 % 4 = 1 ∨ m0 % 4 = 2 ∨ m0 % 4 = 3 := by omega
      rcases this with z | z | z | z <;> rw [z]
      · exact ⟨9, ix_t0, by decide⟩
      · exact ⟨60, ix_t1, by decide⟩
      · exact ⟨900, ix_t2, by decide⟩
      · exact ⟨3, ix_t3, by decide⟩
    have q1 := Int.emod_nonneg (m0 / 4) (show w ≠ 0 by omega)
    have o := rowV_odd m1 13 sp (by decide)
    have er := r_lrow (n := 3) m1 13 sp (by decide) (by decide) (by omega)
    rw [rowD_eq] at er
    refine ⟨rowV m1 13 sp, m0 / 4 % w, ?_, q1, o.1, o.2⟩
    show xss (cf 5) 100000 [_, _, _] _ = _
    simp -implicitDefEqProofs (disch := first | exact sh_int | assumption | omega | (simp -implicitDefEqProofs only [List.length_cons, List.length_nil, List.length_map, List.length_append, List.length_reverse, List.length_take, List.length_drop, List.length_set, List.length_replicate, bitsM_len, bitsL_len]; omega) | (simp -implicitDefEqProofs only [sh_int, sh_oI, sh8_pairs, sh8_rows, sh8_row, sh9_row, sh9_p, sh_bl, sh_non, sh9t, sh9l, sh8t, sh8l, sh7t, sh7l, sh6t, sh6l, sh5t, sh5l, sh4t, sh4l, sh_ints, sh_str, List.all_cons, List.all_nil, List.all_append, List.all_reverse, Bool.and_true, Bool.and_self]; done) | (simp -implicitDefEqProofs only [sh_int, sh_oI, sh8_pairs, sh8_rows, sh8_row, sh9_row, sh9_p, sh_bl, sh_non, sh9t, sh9l, sh8t, sh8l, sh7t, sh7l, sh6t, sh6l, sh5t, sh5l, sh4t, sh4l, sh_ints, sh_str, List.all_cons, List.all_nil, List.all_append, List.all_reverse, Bool.and_true, Bool.and_self]; decide +kernel)) only [ev_var, ev_cst, ev_glb, ev_bin, ev_cmp, ev_neg, ev_not, ev_chn, ev_and, ev_or, ev_idx, ev_cut, ev_stp, ev_tup, ev_lst, ev_call, ev_bi, ev_isi, ev_lc, ev_mth, ev_rpl, ev_kin, ev_kget, ev_sst, ev_lss, evs_nil, evs_cons, b1_ok, b2_ok, bs_ok, bcons_ok, band_t, band_f, band_b, bor_t, bor_f, bor_b, b3_ok, dNot_b, dNeg_i, prt_f, prt_t, blc_ok, bit_ok, dTup_ok, dLst_ok, add_ii, sub_ii, mul_l, mul_r, div_ii, mod_ii, add_tt, add_ll, mul_t1i, mul_l1i, lt_ii, le_ii, gt_ii, ge_ii, chn_le, is_bb, isn_bb, is_nn, is_in, isn_nn, isn_in, is_on, isn_on, deq_nn, deq_ni, deq_in, deq_oi, deq_oo, sh_oI, oI_s, oI_n, eq_ok, ne_ok, in_tup, nin_tup, in_lst, nin_lst, sh_int, sh_bl, sh_non, sh_str, sh_ints, deq_ii, deq_bb, deq_ss, deq_tt, deq_ll, deqL_nil, deqL_cons, deqL_nc, deqL_cn, deqL_ints, deqL_pairs, deqL_rows, deq_rr, deq_pp, get_0, get_s, ix_t0, ix_t1, ix_t2, ix_t3, ix_t4, ix_t5, ix_t6, ix_l0, ix_l1, ix_l2, ix_l3, ix_l4, ix_l5, ix_lb, ix_tb, dCut_t, dCut_l, rev_t, rev_l, even_t, odd_t, even_l, odd_l, len_t, len_l, int_b, int_i, tuple_t, tuple_l, list_t, list_l, abs_i, sum_t, sum_l, max_2, min_2, max_3, min_3, all_l, isi_ii, isi_ib, isi_is, isi_it, isi_il, isi_bi, isi_bb, isi_bt, isi_bs, isi_tt, isi_tl, isi_ti, isi_ts, isi_ll, isi_lt, isi_li, isi_ls, isi_ss, isi_si, isi_st, isi_sb, it_t, it_l, it_r1, it_r2, it_et, it_el, it_ztt, it_zll, it_ztl, it_zlt, lcFn_1, lcFn_2, cdR_t, cdR_f, cdR_b, xs_nil, xs_set, xs_own, xs_unp, xs_app, xs_ext, xs_put, kExt_ok, kPut_last, xs_frz, xs_pas, xs_ret, xs_ife, xs_for, kSet_ok, kOwn_ok, kUnp_t, kUnp_l, kApp_ok, kRet_ok, kIf_t, kIf_f, kSeq_n, kSeq_r, kFor_ok, forFn_1, forFn_2, setAll_n, setAll_c, fin_r, fin_n, wipe_n, wipe_c, go_nil, go_cons, kGo_n, kGo_r, List.set_cons_zero, List.set_cons_succ, List.cons_append, List.nil_append, List.length_cons, List.length_nil, List.all_cons, List.all_nil, Bool.and_true, Bool.true_and, Bool.and_false, Bool.false_and, Bool.or_true, Bool.true_or, Bool.or_false, Bool.false_or, Bool.not_true, Bool.not_false, decide_true, decide_false, eq_self, Int.cast_ofNat_Int, beq_self_eq_true, s_far_wide, s_far_turn, s_wide_far, s_wide_turn, s_turn_far, s_turn_wide, List.any_cons, List.any_nil, Int.reduceEq, Int.reduceLT, Int.reduceLE, Int.reduceAdd, Int.reduceSub, Int.reduceMul, Int.reduceNeg, Int.reduceToNat, Bool.decide_eq_true, Bool.false_eq_true, ↓reduceIte, List.length_map, bitsM_len, Nat.zero_add, Nat.reduceAdd, call_cf, e0, e1, er, ew, es]
  obtain ⟨row, slip, hx, s0, hodd, hlen⟩ := hx
  unfold lawR
  rw [show f_law.body = f_law.body.take 3 ++ f_law.body.drop 3 from (List.take_append_drop 3 _).symm, xs_app_list, hx, kSeq_n]
  show finish (xss (cf 5) 100000 [_, _, _, _, _, _, _, _, _, _, _] _) = _
  have tm := tms_ok s0 row
  have hT : (lrnL row slip).length ≤ 26 := by
    refine Nat.le_trans (inj_len (P := fun a b => b = a - slip) (tm.nd s0) (B := row) (fun a ha => ⟨_, tm.beg a ha, rfl⟩) (fun a a' b _ _ h1 h2 => by omega)) hlen
  have hne : row ≠ [] := fun z => by
    rw [z] at hodd
    exact absurd hodd (by decide)
  have hT1 : 1 ≤ (lrnL row slip).length := by
    obtain ⟨t, ht⟩ := List.exists_mem_of_ne_nil _ hne
    obtain ⟨x, hx, _⟩ := tm.cov t ht
    exact List.length_pos_of_mem hx
  have tl := r_learnt (n := 3) row slip s0 (by omega) hT
  have tl2 := r_llearnt (n := 4) row slip s0 (by omega) hT
  generalize lrnL row slip = T at tm tl tl2 hT hT1
  have hidx : ∀ t ∈ row, ∃ x, T[idxL slip t T]? = some x ∧ x - t ≤ slip ∧ t - x ≤ slip := fun t ht => idx_ok (tm.cov t ht)
  generalize hL : row.map (fun t => idxL slip t T) = L at tl tl2
  have hLl : L.length = row.length := by rw [← hL, List.length_map]
  have hil : ∀ i ∈ L, i < T.length := fun i hi => by
    rw [← hL] at hi
    obtain ⟨t, ht, rfl⟩ := List.mem_map.mp hi
    obtain ⟨x, hx, _⟩ := hidx t ht
    exact (List.getElem?_eq_some_iff.mp hx).1
  have eU := r_unl (n := 4) T L hil hT (by rw [hLl]; exact hodd) (by omega)
  have hsh : shD 9 (.tup [rowD T, .str (sN (ltN L))]) = true := by
    rw [sh9t, List.all_cons, List.all_cons, List.all_nil, sh8_row, sh_str, lt_strOk (fun i hi => by
      have := hil i hi
      omega)]
    rfl
  have hself := deq_self 9 _ hsh
  have hll : (ltN L).length = row.length := by unfold ltN; rw [List.length_map, hLl]
  have hokL : ∀ c ∈ ltN L, okC T.length c = true ∧ c < 128 := fun c hc => by
    obtain ⟨i, hi, rfl⟩ := List.mem_map.mp hc
    have := hil i hi
    exact ⟨decide_eq_true (by omega), by omega⟩
  obtain ⟨od, eod, hod⟩ : ∃ od : List Nat, dIdx (.lst [.str "A", .str " ", .str "0", .str ""]) (.int (m0 / 16384 % 4)) = .ok (.str (sN od)) ∧ (od = [65] ∨ od = [32] ∨ od = [48] ∨ od = []) := by
    have : m0 / 16384 % 4 = 0 ∨ m0 / 16384 % 4 = 1 ∨ m0 / 16384 % 4 = 2 ∨ m0 / 16384 % 4 = 3 := by omega
    rcases this with z | z | z | z <;> rw [z]
    · exact ⟨[65], ix_l0, .inl rfl⟩
    · exact ⟨[32], ix_l1, .inr (.inl rfl)⟩
    · exact ⟨[48], ix_l2, .inr (.inr (.inl rfl))⟩
    · exact ⟨[], ix_l3, .inr (.inr (.inr rfl))⟩
  simp -implicitDefEqProofs (disch := first | exact sh_int | assumption | omega | (simp -implicitDefEqProofs only [List.length_cons, List.length_nil, List.length_map, List.length_append, List.length_reverse, List.length_take, List.length_drop, List.length_set, List.length_replicate, bitsM_len, bitsL_len]; omega) | (simp -implicitDefEqProofs only [sh_int, sh_oI, sh8_pairs, sh8_rows, sh8_row, sh9_row, sh9_p, sh_bl, sh_non, sh9t, sh9l, sh8t, sh8l, sh7t, sh7l, sh6t, sh6l, sh5t, sh5l, sh4t, sh4l, sh_ints, sh_str, List.all_cons, List.all_nil, List.all_append, List.all_reverse, Bool.and_true, Bool.and_self]; done) | (simp -implicitDefEqProofs only [sh_int, sh_oI, sh8_pairs, sh8_rows, sh8_row, sh9_row, sh9_p, sh_bl, sh_non, sh9t, sh9l, sh8t, sh8l, sh7t, sh7l, sh6t, sh6l, sh5t, sh5l, sh4t, sh4l, sh_ints, sh_str, List.all_cons, List.all_nil, List.all_append, List.all_reverse, Bool.and_true, Bool.and_self]; decide +kernel)) only [ev_var, ev_cst, ev_glb, ev_bin, ev_cmp, ev_neg, ev_not, ev_chn, ev_and, ev_or, ev_idx, ev_cut, ev_stp, ev_tup, ev_lst, ev_call, ev_bi, ev_isi, ev_lc, ev_mth, ev_rpl, ev_kin, ev_kget, ev_sst, ev_lss, evs_nil, evs_cons, b1_ok, b2_ok, bs_ok, bcons_ok, band_t, band_f, band_b, bor_t, bor_f, bor_b, b3_ok, dNot_b, dNeg_i, prt_f, prt_t, blc_ok, bit_ok, dTup_ok, dLst_ok, add_ii, sub_ii, mul_l, mul_r, div_ii, mod_ii, add_tt, add_ll, mul_t1i, mul_l1i, lt_ii, le_ii, gt_ii, ge_ii, chn_le, is_bb, isn_bb, is_nn, is_in, isn_nn, isn_in, is_on, isn_on, deq_nn, deq_ni, deq_in, deq_oi, deq_oo, sh_oI, oI_s, oI_n, eq_ok, ne_ok, in_tup, nin_tup, in_lst, nin_lst, sh_int, sh_bl, sh_non, sh_str, sh_ints, deq_ii, deq_bb, deq_ss, deq_tt, deq_ll, deqL_nil, deqL_cons, deqL_nc, deqL_cn, deqL_ints, deqL_pairs, deqL_rows, deq_rr, deq_pp, get_0, get_s, ix_t0, ix_t1, ix_t2, ix_t3, ix_t4, ix_t5, ix_t6, ix_l0, ix_l1, ix_l2, ix_l3, ix_l4, ix_l5, ix_lb, ix_tb, dCut_t, dCut_l, rev_t, rev_l, even_t, odd_t, even_l, odd_l, len_t, len_l, int_b, int_i, tuple_t, tuple_l, list_t, list_l, abs_i, sum_t, sum_l, max_2, min_2, max_3, min_3, all_l, isi_ii, isi_ib, isi_is, isi_it, isi_il, isi_bi, isi_bb, isi_bt, isi_bs, isi_tt, isi_tl, isi_ti, isi_ts, isi_ll, isi_lt, isi_li, isi_ls, isi_ss, isi_si, isi_st, isi_sb, it_t, it_l, it_r1, it_r2, it_et, it_el, it_ztt, it_zll, it_ztl, it_zlt, lcFn_1, lcFn_2, cdR_t, cdR_f, cdR_b, xs_nil, xs_set, xs_own, xs_unp, xs_app, xs_ext, xs_put, kExt_ok, kPut_last, xs_frz, xs_pas, xs_ret, xs_ife, xs_for, kSet_ok, kOwn_ok, kUnp_t, kUnp_l, kApp_ok, kRet_ok, kIf_t, kIf_f, kSeq_n, kSeq_r, kFor_ok, forFn_1, forFn_2, setAll_n, setAll_c, fin_r, fin_n, wipe_n, wipe_c, kGo_n, kGo_r, List.set_cons_zero, List.set_cons_succ, List.cons_append, List.nil_append, List.length_cons, List.length_nil, List.all_cons, List.all_nil, Bool.and_true, Bool.true_and, Bool.and_false, Bool.false_and, Bool.or_true, Bool.true_or, Bool.or_false, Bool.false_or, Bool.not_true, Bool.not_false, decide_true, decide_false, eq_self, Int.cast_ofNat_Int, beq_self_eq_true, s_far_wide, s_far_turn, s_wide_far, s_wide_turn, s_turn_far, s_turn_wide, List.any_cons, List.any_nil, Int.reduceEq, Int.reduceLT, Int.reduceLE, Int.reduceAdd, Int.reduceSub, Int.reduceMul, Int.reduceNeg, Int.reduceToNat, Bool.decide_eq_true, Bool.false_eq_true, ↓reduceIte, List.length_map, bitsM_len, Nat.zero_add, Nat.reduceAdd, call_cf, tl, tl2, hsh, hself, setAll_c, setAll_n, evy_lit, eU, it_lt]
  rw [lcS_map (gBack T) (by rw [List.length_map]; omega) (fun d hd => by
    obtain ⟨i, hi, rfl⟩ := List.mem_map.mp hd
    have h1 := hil i hi
    have h2 := index_evy (i := i) (by omega)
    have h3 := ix_tn h1
    simp -implicitDefEqProofs (disch := first | exact sh_int | assumption | omega | (simp -implicitDefEqProofs only [List.length_cons, List.length_nil, List.length_map, List.length_append, List.length_reverse, List.length_take, List.length_drop, List.length_set, List.length_replicate, bitsM_len, bitsL_len]; omega) | (simp -implicitDefEqProofs only [sh_int, sh_oI, sh8_pairs, sh8_rows, sh8_row, sh9_row, sh9_p, sh_bl, sh_non, sh9t, sh9l, sh8t, sh8l, sh7t, sh7l, sh6t, sh6l, sh5t, sh5l, sh4t, sh4l, sh_ints, sh_str, List.all_cons, List.all_nil, List.all_append, List.all_reverse, Bool.and_true, Bool.and_self]; done) | (simp -implicitDefEqProofs only [sh_int, sh_oI, sh8_pairs, sh8_rows, sh8_row, sh9_row, sh9_p, sh_bl, sh_non, sh9t, sh9l, sh8t, sh8l, sh7t, sh7l, sh6t, sh6l, sh5t, sh5l, sh4t, sh4l, sh_ints, sh_str, List.all_cons, List.all_nil, List.all_append, List.all_reverse, Bool.and_true, Bool.and_self]; decide +kernel)) only [ev_var, ev_cst, ev_glb, ev_bin, ev_cmp, ev_neg, ev_not, ev_chn, ev_and, ev_or, ev_idx, ev_cut, ev_stp, ev_tup, ev_lst, ev_call, ev_bi, ev_isi, ev_lc, ev_mth, ev_rpl, ev_kin, ev_kget, ev_sst, ev_lss, evs_nil, evs_cons, b1_ok, b2_ok, bs_ok, bcons_ok, band_t, band_f, band_b, bor_t, bor_f, bor_b, b3_ok, dNot_b, dNeg_i, prt_f, prt_t, blc_ok, bit_ok, dTup_ok, dLst_ok, add_ii, sub_ii, mul_l, mul_r, div_ii, mod_ii, add_tt, add_ll, mul_t1i, mul_l1i, lt_ii, le_ii, gt_ii, ge_ii, chn_le, is_bb, isn_bb, is_nn, is_in, isn_nn, isn_in, is_on, isn_on, deq_nn, deq_ni, deq_in, deq_oi, deq_oo, sh_oI, oI_s, oI_n, eq_ok, ne_ok, in_tup, nin_tup, in_lst, nin_lst, sh_int, sh_bl, sh_non, sh_str, sh_ints, deq_ii, deq_bb, deq_ss, deq_tt, deq_ll, deqL_nil, deqL_cons, deqL_nc, deqL_cn, deqL_ints, deqL_pairs, deqL_rows, deq_rr, deq_pp, get_0, get_s, ix_t0, ix_t1, ix_t2, ix_t3, ix_t4, ix_t5, ix_t6, ix_l0, ix_l1, ix_l2, ix_l3, ix_l4, ix_l5, ix_lb, ix_tb, dCut_t, dCut_l, rev_t, rev_l, even_t, odd_t, even_l, odd_l, len_t, len_l, int_b, int_i, tuple_t, tuple_l, list_t, list_l, abs_i, sum_t, sum_l, max_2, min_2, max_3, min_3, all_l, isi_ii, isi_ib, isi_is, isi_it, isi_il, isi_bi, isi_bb, isi_bt, isi_bs, isi_tt, isi_tl, isi_ti, isi_ts, isi_ll, isi_lt, isi_li, isi_ls, isi_ss, isi_si, isi_st, isi_sb, it_t, it_l, it_r1, it_r2, it_et, it_el, it_ztt, it_zll, it_ztl, it_zlt, lcFn_1, lcFn_2, cdR_t, cdR_f, cdR_b, xs_nil, xs_set, xs_own, xs_unp, xs_app, xs_ext, xs_put, kExt_ok, kPut_last, xs_frz, xs_pas, xs_ret, xs_ife, xs_for, kSet_ok, kOwn_ok, kUnp_t, kUnp_l, kApp_ok, kRet_ok, kIf_t, kIf_f, kSeq_n, kSeq_r, kFor_ok, forFn_1, forFn_2, setAll_n, setAll_c, fin_r, fin_n, wipe_n, wipe_c, go_nil, go_cons, kGo_n, kGo_r, List.set_cons_zero, List.set_cons_succ, List.cons_append, List.nil_append, List.length_cons, List.length_nil, List.all_cons, List.all_nil, Bool.and_true, Bool.true_and, Bool.and_false, Bool.false_and, Bool.or_true, Bool.true_or, Bool.or_false, Bool.false_or, Bool.not_true, Bool.not_false, decide_true, decide_false, eq_self, Int.cast_ofNat_Int, beq_self_eq_true, s_far_wide, s_far_turn, s_wide_far, s_wide_turn, s_turn_far, s_turn_wide, List.any_cons, List.any_nil, Int.reduceEq, Int.reduceLT, Int.reduceLE, Int.reduceAdd, Int.reduceSub, Int.reduceMul, Int.reduceNeg, Int.reduceToNat, Bool.decide_eq_true, Bool.false_eq_true, ↓reduceIte, List.length_map, bitsM_len, Nat.zero_add, Nat.reduceAdd, call_cf, h2, rowD, h3, gBack]
    show _ = R.ok (some (D.int (T.getD (97 + i - 97) 0)))
    rw [show 97 + i - 97 = i by omega]), gBack_map]
  have hev := ix_evy hT
  generalize hcx : (if T.length = 26 then 126 else 97 + T.length) = cx at hev
  have hcx1 : okC T.length cx = false ∧ cx < 128 := by
    refine ⟨decide_eq_false ?_, ?_⟩ <;> (rw [← hcx]; split <;> omega)
  have hod1 : od.length ≤ 1 ∧ ∀ c ∈ od, okC T.length c = false ∧ c < 128 := by
    rcases hod with z | z | z | z <;> subst z <;> refine ⟨by decide, fun c hc => ?_⟩
    · rw [List.mem_singleton] at hc; subst hc; exact ⟨decide_eq_false (by omega), by decide⟩
    · rw [List.mem_singleton] at hc; subst hc; exact ⟨decide_eq_false (by omega), by decide⟩
    · rw [List.mem_singleton] at hc; subst hc; exact ⟨decide_eq_false (by omega), by decide⟩
    · exact nomatch hc
  generalize hLL : ltN L = LL at eU tl tl2 hsh hself hll hokL ⊢
  have hLn : LL ≠ [] := fun z => by
    rw [z, List.length_nil] at hll
    omega
  have hcut1 : cutL LL none (some 1) = LL.take 1 := cut_hi (by decide)
  simp -implicitDefEqProofs (disch := first | exact sh_int | assumption | omega | (simp -implicitDefEqProofs only [List.length_cons, List.length_nil, List.length_map, List.length_append, List.length_reverse, List.length_take, List.length_drop, List.length_set, List.length_replicate, bitsM_len, bitsL_len]; omega) | (simp -implicitDefEqProofs only [sh_int, sh_oI, sh8_pairs, sh8_rows, sh8_row, sh9_row, sh9_p, sh_bl, sh_non, sh9t, sh9l, sh8t, sh8l, sh7t, sh7l, sh6t, sh6l, sh5t, sh5l, sh4t, sh4l, sh_ints, sh_str, List.all_cons, List.all_nil, List.all_append, List.all_reverse, Bool.and_true, Bool.and_self]; done) | (simp -implicitDefEqProofs only [sh_int, sh_oI, sh8_pairs, sh8_rows, sh8_row, sh9_row, sh9_p, sh_bl, sh_non, sh9t, sh9l, sh8t, sh8l, sh7t, sh7l, sh6t, sh6l, sh5t, sh5l, sh4t, sh4l, sh_ints, sh_str, List.all_cons, List.all_nil, List.all_append, List.all_reverse, Bool.and_true, Bool.and_self]; decide +kernel)) only [ev_var, ev_cst, ev_glb, ev_bin, ev_cmp, ev_neg, ev_not, ev_chn, ev_and, ev_or, ev_idx, ev_cut, ev_stp, ev_tup, ev_lst, ev_call, ev_bi, ev_isi, ev_lc, ev_mth, ev_rpl, ev_kin, ev_kget, ev_sst, ev_lss, evs_nil, evs_cons, b1_ok, b2_ok, bs_ok, bcons_ok, band_t, band_f, band_b, bor_t, bor_f, bor_b, b3_ok, dNot_b, dNeg_i, prt_f, prt_t, blc_ok, bit_ok, dTup_ok, dLst_ok, add_ii, sub_ii, mul_l, mul_r, div_ii, mod_ii, add_tt, add_ll, mul_t1i, mul_l1i, lt_ii, le_ii, gt_ii, ge_ii, chn_le, is_bb, isn_bb, is_nn, is_in, isn_nn, isn_in, is_on, isn_on, deq_nn, deq_ni, deq_in, deq_oi, deq_oo, sh_oI, oI_s, oI_n, eq_ok, ne_ok, in_tup, nin_tup, in_lst, nin_lst, sh_int, sh_bl, sh_non, sh_str, sh_ints, deq_ii, deq_bb, deq_ss, deq_tt, deq_ll, deqL_nil, deqL_cons, deqL_nc, deqL_cn, deqL_ints, deqL_pairs, deqL_rows, deq_rr, deq_pp, get_0, get_s, ix_t0, ix_t1, ix_t2, ix_t3, ix_t4, ix_t5, ix_t6, ix_l0, ix_l1, ix_l2, ix_l3, ix_l4, ix_l5, ix_lb, ix_tb, dCut_t, dCut_l, rev_t, rev_l, even_t, odd_t, even_l, odd_l, len_t, len_l, int_b, int_i, tuple_t, tuple_l, list_t, list_l, abs_i, sum_t, sum_l, max_2, min_2, max_3, min_3, all_l, isi_ii, isi_ib, isi_is, isi_it, isi_il, isi_bi, isi_bb, isi_bt, isi_bs, isi_tt, isi_tl, isi_ti, isi_ts, isi_ll, isi_lt, isi_li, isi_ls, isi_ss, isi_si, isi_st, isi_sb, it_t, it_l, it_r1, it_r2, it_et, it_el, it_ztt, it_zll, it_ztl, it_zlt, lcFn_1, lcFn_2, cdR_t, cdR_f, cdR_b, xs_nil, xs_set, xs_own, xs_unp, xs_app, xs_ext, xs_put, kExt_ok, kPut_last, xs_frz, xs_pas, xs_ret, xs_ife, xs_for, kSet_ok, kOwn_ok, kUnp_t, kUnp_l, kApp_ok, kRet_ok, kIf_t, kIf_f, kSeq_n, kSeq_r, kFor_ok, forFn_1, forFn_2, setAll_n, setAll_c, fin_r, fin_n, wipe_n, wipe_c, kGo_n, kGo_r, List.set_cons_zero, List.set_cons_succ, List.cons_append, List.nil_append, List.length_cons, List.length_nil, List.all_cons, List.all_nil, Bool.and_true, Bool.true_and, Bool.and_false, Bool.false_and, Bool.or_true, Bool.true_or, Bool.or_false, Bool.false_or, Bool.not_true, Bool.not_false, decide_true, decide_false, eq_self, Int.cast_ofNat_Int, beq_self_eq_true, s_far_wide, s_far_turn, s_wide_far, s_wide_turn, s_turn_far, s_turn_wide, List.any_cons, List.any_nil, Int.reduceEq, Int.reduceLT, Int.reduceLE, Int.reduceAdd, Int.reduceSub, Int.reduceMul, Int.reduceNeg, Int.reduceToNat, Bool.decide_eq_true, Bool.false_eq_true, ↓reduceIte, List.length_map, bitsM_len, Nat.zero_add, Nat.reduceAdd, call_cf, rowD_eq, deq_rr, eod]
  have h4 := add_ss (a := LL.dropLast) (b := [cx]) (by rw [List.length_dropLast, List.length_cons, List.length_nil]; omega)
  simp -implicitDefEqProofs (disch := first | exact sh_int | assumption | omega | (simp -implicitDefEqProofs only [List.length_cons, List.length_nil, List.length_map, List.length_append, List.length_reverse, List.length_take, List.length_drop, List.length_set, List.length_replicate, bitsM_len, bitsL_len]; omega) | (simp -implicitDefEqProofs only [sh_int, sh_oI, sh8_pairs, sh8_rows, sh8_row, sh9_row, sh9_p, sh_bl, sh_non, sh9t, sh9l, sh8t, sh8l, sh7t, sh7l, sh6t, sh6l, sh5t, sh5l, sh4t, sh4l, sh_ints, sh_str, List.all_cons, List.all_nil, List.all_append, List.all_reverse, Bool.and_true, Bool.and_self]; done) | (simp -implicitDefEqProofs only [sh_int, sh_oI, sh8_pairs, sh8_rows, sh8_row, sh9_row, sh9_p, sh_bl, sh_non, sh9t, sh9l, sh8t, sh8l, sh7t, sh7l, sh6t, sh6l, sh5t, sh5l, sh4t, sh4l, sh_ints, sh_str, List.all_cons, List.all_nil, List.all_append, List.all_reverse, Bool.and_true, Bool.and_self]; decide +kernel)) only [ev_var, ev_cst, ev_glb, ev_bin, ev_cmp, ev_neg, ev_not, ev_chn, ev_and, ev_or, ev_idx, ev_cut, ev_stp, ev_tup, ev_lst, ev_call, ev_bi, ev_isi, ev_lc, ev_mth, ev_rpl, ev_kin, ev_kget, ev_sst, ev_lss, evs_nil, evs_cons, b1_ok, b2_ok, bs_ok, bcons_ok, band_t, band_f, band_b, bor_t, bor_f, bor_b, b3_ok, dNot_b, dNeg_i, prt_f, prt_t, blc_ok, bit_ok, dTup_ok, dLst_ok, add_ii, sub_ii, mul_l, mul_r, div_ii, mod_ii, add_tt, add_ll, mul_t1i, mul_l1i, lt_ii, le_ii, gt_ii, ge_ii, chn_le, is_bb, isn_bb, is_nn, is_in, isn_nn, isn_in, is_on, isn_on, deq_nn, deq_ni, deq_in, deq_oi, deq_oo, sh_oI, oI_s, oI_n, eq_ok, ne_ok, in_tup, nin_tup, in_lst, nin_lst, sh_int, sh_bl, sh_non, sh_str, sh_ints, deq_ii, deq_bb, deq_ss, deq_tt, deq_ll, deqL_nil, deqL_cons, deqL_nc, deqL_cn, deqL_ints, deqL_pairs, deqL_rows, deq_rr, deq_pp, get_0, get_s, ix_t0, ix_t1, ix_t2, ix_t3, ix_t4, ix_t5, ix_t6, ix_l0, ix_l1, ix_l2, ix_l3, ix_l4, ix_l5, ix_lb, ix_tb, dCut_t, dCut_l, rev_t, rev_l, even_t, odd_t, even_l, odd_l, len_t, len_l, int_b, int_i, tuple_t, tuple_l, list_t, list_l, abs_i, sum_t, sum_l, max_2, min_2, max_3, min_3, all_l, isi_ii, isi_ib, isi_is, isi_it, isi_il, isi_bi, isi_bb, isi_bt, isi_bs, isi_tt, isi_tl, isi_ti, isi_ts, isi_ll, isi_lt, isi_li, isi_ls, isi_ss, isi_si, isi_st, isi_sb, it_t, it_l, it_r1, it_r2, it_et, it_el, it_ztt, it_zll, it_ztl, it_zlt, lcFn_1, lcFn_2, cdR_t, cdR_f, cdR_b, xs_nil, xs_set, xs_own, xs_unp, xs_app, xs_ext, xs_put, kExt_ok, kPut_last, xs_frz, xs_pas, xs_ret, xs_ife, xs_for, kSet_ok, kOwn_ok, kUnp_t, kUnp_l, kApp_ok, kRet_ok, kIf_t, kIf_f, kSeq_n, kSeq_r, kFor_ok, forFn_1, forFn_2, setAll_n, setAll_c, fin_r, fin_n, wipe_n, wipe_c, kGo_n, kGo_r, List.set_cons_zero, List.set_cons_succ, List.cons_append, List.nil_append, List.length_cons, List.length_nil, List.all_cons, List.all_nil, Bool.and_true, Bool.true_and, Bool.and_false, Bool.false_and, Bool.or_true, Bool.true_or, Bool.or_false, Bool.false_or, Bool.not_true, Bool.not_false, decide_true, decide_false, eq_self, Int.cast_ofNat_Int, beq_self_eq_true, s_far_wide, s_far_turn, s_wide_far, s_wide_turn, s_turn_far, s_turn_wide, List.any_cons, List.any_nil, Int.reduceEq, Int.reduceLT, Int.reduceLE, Int.reduceAdd, Int.reduceSub, Int.reduceMul, Int.reduceNeg, Int.reduceToNat, Bool.decide_eq_true, Bool.false_eq_true, ↓reduceIte, List.length_map, bitsM_len, Nat.zero_add, Nat.reduceAdd, call_cf, dCut_s, hcut1, cut_m, lit_a, lit_e, add_ss, hev, len_r, h4]
  refine loopP_fin (fun r ρ => ∃ (q : List (List Nat)) (j8 j10 j11 j12 j13 j14 : Option D), r = q.map (fun z => D.str (sN z)) ∧ (∀ z ∈ q, z.length ≤ 1000 ∧ (∀ c ∈ z, c < 1114112) ∧ badT T.length z) ∧ ρ = [some (.lst (ns.map D.int)), some (.int m0), some (rowD row), some (.int slip), some (.tup [rowD T, .str (sN LL)]), some (rowD T), some (.str (sN LL)), some (.str EVY), j8, some (.str (sN od)), j10, j11, j12, j13, j14, none, none])
    ⟨[LL ++ LL.take 1, LL ++ od ++ [97], [], LL.dropLast ++ [cx]], none, none, none, none, none, none, rfl, ?_, rfl⟩ ?_ ?_
  · intro z hz
    have hLc : ∀ c ∈ LL, c < 1114112 := fun c hc => by have := (hokL c hc).2; omega
    simp only [List.mem_cons, List.not_mem_nil, or_false] at hz
    rcases hz with z | z | z | z <;> subst z
    · refine ⟨by rw [List.length_append, List.length_take]; omega, fun c hc => ?_, .inl ?_⟩
      · rcases List.mem_append.mp hc with h | h
        · exact hLc c h
        · exact hLc c (List.mem_of_mem_take h)
      · rw [List.length_append, List.length_take]
        omega
    · refine ⟨by rw [List.length_append, List.length_append, List.length_cons, List.length_nil]; omega, fun c hc => ?_, ?_⟩
      · rcases List.mem_append.mp hc with h | h
        · rcases List.mem_append.mp h with h | h
          · exact hLc c h
          · have := (hod1.2 c h).2
            omega
        · rw [List.mem_singleton] at h
          omega
      · cases od with
        | nil =>
          refine .inl ?_
          rw [List.append_nil, List.length_append, List.length_cons, List.length_nil]
          omega
        | cons o r => exact .inr ⟨o, List.mem_append_left _ (List.mem_append_right _ List.mem_cons_self), (hod1.2 o List.mem_cons_self).1⟩
    · exact ⟨by decide, (fun c hc => nomatch hc), .inl rfl⟩
    · refine ⟨by rw [List.length_append, List.length_dropLast, List.length_cons, List.length_nil]; omega, fun c hc => ?_, .inr ⟨cx, List.mem_append_right _ List.mem_cons_self, hcx1.1⟩⟩
      rcases List.mem_append.mp hc with h | h
      · exact hLc c (List.dropLast_subset _ h)
      · rw [List.mem_singleton] at h
        have := hcx1.2
        omega
  · rintro d q ρ ⟨q, j8, j10, j11, j12, j13, j14, hr, hq, rfl⟩
    cases q with
    | nil => cases hr
    | cons z q =>
      injection hr with hd hq'
      subst hd hq'
      obtain ⟨g1, g2, g3⟩ := hq z List.mem_cons_self
      obtain ⟨c11, c13, c14, e⟩ := turn_ok (n := 4) T z hT g1 g2 g3 (some (.lst (ns.map D.int))) (some (.int m0)) (some (rowD row)) (some (.int slip)) (some (.tup [rowD T, .str (sN LL)])) (some (.str (sN LL))) j8 (some (.str (sN od))) j11 j12 j13 j14 none none
      exact ⟨_, e, q, j8, some (.str (sN z)), c11, j12, c13, c14, rfl, fun z hz => hq z (List.mem_cons_of_mem _ hz), rfl⟩
  · rintro ρ ⟨q, j8, j10, j11, j12, j13, j14, hr, hq, rfl⟩
    clear hr hq
    have h2 : m0 / 65536 % 2 = 0 ∨ m0 / 65536 % 2 = 1 := by omega
    rcases h2 with z | z
    · simp -implicitDefEqProofs (disch := first | exact sh_int | assumption | omega | (simp -implicitDefEqProofs only [List.length_cons, List.length_nil, List.length_map, List.length_append, List.length_reverse, List.length_take, List.length_drop, List.length_set, List.length_replicate, bitsM_len, bitsL_len]; omega) | (simp -implicitDefEqProofs only [sh_int, sh_oI, sh8_pairs, sh8_rows, sh8_row, sh9_row, sh9_p, sh_bl, sh_non, sh9t, sh9l, sh8t, sh8l, sh7t, sh7l, sh6t, sh6l, sh5t, sh5l, sh4t, sh4l, sh_ints, sh_str, List.all_cons, List.all_nil, List.all_append, List.all_reverse, Bool.and_true, Bool.and_self]; done) | (simp -implicitDefEqProofs only [sh_int, sh_oI, sh8_pairs, sh8_rows, sh8_row, sh9_row, sh9_p, sh_bl, sh_non, sh9t, sh9l, sh8t, sh8l, sh7t, sh7l, sh6t, sh6l, sh5t, sh5l, sh4t, sh4l, sh_ints, sh_str, List.all_cons, List.all_nil, List.all_append, List.all_reverse, Bool.and_true, Bool.and_self]; decide +kernel)) only [ev_var, ev_cst, ev_glb, ev_bin, ev_cmp, ev_neg, ev_not, ev_chn, ev_and, ev_or, ev_idx, ev_cut, ev_stp, ev_tup, ev_lst, ev_call, ev_bi, ev_isi, ev_lc, ev_mth, ev_rpl, ev_kin, ev_kget, ev_sst, ev_lss, evs_nil, evs_cons, b1_ok, b2_ok, bs_ok, bcons_ok, band_t, band_f, band_b, bor_t, bor_f, bor_b, b3_ok, dNot_b, dNeg_i, prt_f, prt_t, blc_ok, bit_ok, dTup_ok, dLst_ok, add_ii, sub_ii, mul_l, mul_r, div_ii, mod_ii, add_tt, add_ll, mul_t1i, mul_l1i, lt_ii, le_ii, gt_ii, ge_ii, chn_le, is_bb, isn_bb, is_nn, is_in, isn_nn, isn_in, is_on, isn_on, deq_nn, deq_ni, deq_in, deq_oi, deq_oo, sh_oI, oI_s, oI_n, eq_ok, ne_ok, in_tup, nin_tup, in_lst, nin_lst, sh_int, sh_bl, sh_non, sh_str, sh_ints, deq_ii, deq_bb, deq_ss, deq_tt, deq_ll, deqL_nil, deqL_cons, deqL_nc, deqL_cn, deqL_ints, deqL_pairs, deqL_rows, deq_rr, deq_pp, get_0, get_s, ix_t0, ix_t1, ix_t2, ix_t3, ix_t4, ix_t5, ix_t6, ix_l0, ix_l1, ix_l2, ix_l3, ix_l4, ix_l5, ix_lb, ix_tb, dCut_t, dCut_l, rev_t, rev_l, even_t, odd_t, even_l, odd_l, len_t, len_l, int_b, int_i, tuple_t, tuple_l, list_t, list_l, abs_i, sum_t, sum_l, max_2, min_2, max_3, min_3, all_l, isi_ii, isi_ib, isi_is, isi_it, isi_il, isi_bi, isi_bb, isi_bt, isi_bs, isi_tt, isi_tl, isi_ti, isi_ts, isi_ll, isi_lt, isi_li, isi_ls, isi_ss, isi_si, isi_st, isi_sb, it_t, it_l, it_r1, it_r2, it_et, it_el, it_ztt, it_zll, it_ztl, it_zlt, lcFn_1, lcFn_2, cdR_t, cdR_f, cdR_b, xs_nil, xs_set, xs_own, xs_unp, xs_app, xs_ext, xs_put, kExt_ok, kPut_last, xs_frz, xs_pas, xs_ret, xs_ife, xs_for, kSet_ok, kOwn_ok, kUnp_t, kUnp_l, kApp_ok, kRet_ok, kIf_t, kIf_f, kSeq_n, kSeq_r, kFor_ok, forFn_1, forFn_2, setAll_n, setAll_c, fin_r, fin_n, wipe_n, wipe_c, kGo_n, kGo_r, List.set_cons_zero, List.set_cons_succ, List.cons_append, List.nil_append, List.length_cons, List.length_nil, List.all_cons, List.all_nil, Bool.and_true, Bool.true_and, Bool.and_false, Bool.false_and, Bool.or_true, Bool.true_or, Bool.or_false, Bool.false_or, Bool.not_true, Bool.not_false, decide_true, decide_false, eq_self, Int.cast_ofNat_Int, beq_self_eq_true, s_far_wide, s_far_turn, s_wide_far, s_wide_turn, s_turn_far, s_turn_wide, List.any_cons, List.any_nil, Int.reduceEq, Int.reduceLT, Int.reduceLE, Int.reduceAdd, Int.reduceSub, Int.reduceMul, Int.reduceNeg, Int.reduceToNat, Bool.decide_eq_true, Bool.false_eq_true, ↓reduceIte, List.length_map, bitsM_len, Nat.zero_add, Nat.reduceAdd, call_cf, z, Int.reduceMul, Int.reduceAdd]
      rw [lcS_map (dI fun k => 3 * k + 1) (by rw [rgL_len]; decide) (fun d hd => by
        obtain ⟨i, hi, rfl⟩ := rgL_mem hd
        simp -implicitDefEqProofs (disch := first | exact sh_int | assumption | omega | (simp -implicitDefEqProofs only [List.length_cons, List.length_nil, List.length_map, List.length_append, List.length_reverse, List.length_take, List.length_drop, List.length_set, List.length_replicate, bitsM_len, bitsL_len]; omega) | (simp -implicitDefEqProofs only [sh_int, sh_oI, sh8_pairs, sh8_rows, sh8_row, sh9_row, sh9_p, sh_bl, sh_non, sh9t, sh9l, sh8t, sh8l, sh7t, sh7l, sh6t, sh6l, sh5t, sh5l, sh4t, sh4l, sh_ints, sh_str, List.all_cons, List.all_nil, List.all_append, List.all_reverse, Bool.and_true, Bool.and_self]; done) | (simp -implicitDefEqProofs only [sh_int, sh_oI, sh8_pairs, sh8_rows, sh8_row, sh9_row, sh9_p, sh_bl, sh_non, sh9t, sh9l, sh8t, sh8l, sh7t, sh7l, sh6t, sh6l, sh5t, sh5l, sh4t, sh4l, sh_ints, sh_str, List.all_cons, List.all_nil, List.all_append, List.all_reverse, Bool.and_true, Bool.and_self]; decide +kernel)) only [ev_var, ev_cst, ev_glb, ev_bin, ev_cmp, ev_neg, ev_not, ev_chn, ev_and, ev_or, ev_idx, ev_cut, ev_stp, ev_tup, ev_lst, ev_call, ev_bi, ev_isi, ev_lc, ev_mth, ev_rpl, ev_kin, ev_kget, ev_sst, ev_lss, evs_nil, evs_cons, b1_ok, b2_ok, bs_ok, bcons_ok, band_t, band_f, band_b, bor_t, bor_f, bor_b, b3_ok, dNot_b, dNeg_i, prt_f, prt_t, blc_ok, bit_ok, dTup_ok, dLst_ok, add_ii, sub_ii, mul_l, mul_r, div_ii, mod_ii, add_tt, add_ll, mul_t1i, mul_l1i, lt_ii, le_ii, gt_ii, ge_ii, chn_le, is_bb, isn_bb, is_nn, is_in, isn_nn, isn_in, is_on, isn_on, deq_nn, deq_ni, deq_in, deq_oi, deq_oo, sh_oI, oI_s, oI_n, eq_ok, ne_ok, in_tup, nin_tup, in_lst, nin_lst, sh_int, sh_bl, sh_non, sh_str, sh_ints, deq_ii, deq_bb, deq_ss, deq_tt, deq_ll, deqL_nil, deqL_cons, deqL_nc, deqL_cn, deqL_ints, deqL_pairs, deqL_rows, deq_rr, deq_pp, get_0, get_s, ix_t0, ix_t1, ix_t2, ix_t3, ix_t4, ix_t5, ix_t6, ix_l0, ix_l1, ix_l2, ix_l3, ix_l4, ix_l5, ix_lb, ix_tb, dCut_t, dCut_l, rev_t, rev_l, even_t, odd_t, even_l, odd_l, len_t, len_l, int_b, int_i, tuple_t, tuple_l, list_t, list_l, abs_i, sum_t, sum_l, max_2, min_2, max_3, min_3, all_l, isi_ii, isi_ib, isi_is, isi_it, isi_il, isi_bi, isi_bb, isi_bt, isi_bs, isi_tt, isi_tl, isi_ti, isi_ts, isi_ll, isi_lt, isi_li, isi_ls, isi_ss, isi_si, isi_st, isi_sb, it_t, it_l, it_r1, it_r2, it_et, it_el, it_ztt, it_zll, it_ztl, it_zlt, lcFn_1, lcFn_2, cdR_t, cdR_f, cdR_b, xs_nil, xs_set, xs_own, xs_unp, xs_app, xs_ext, xs_put, kExt_ok, kPut_last, xs_frz, xs_pas, xs_ret, xs_ife, xs_for, kSet_ok, kOwn_ok, kUnp_t, kUnp_l, kApp_ok, kRet_ok, kIf_t, kIf_f, kSeq_n, kSeq_r, kFor_ok, forFn_1, forFn_2, setAll_n, setAll_c, fin_r, fin_n, wipe_n, wipe_c, go_nil, go_cons, kGo_n, kGo_r, List.set_cons_zero, List.set_cons_succ, List.cons_append, List.nil_append, List.length_cons, List.length_nil, List.all_cons, List.all_nil, Bool.and_true, Bool.true_and, Bool.and_false, Bool.false_and, Bool.or_true, Bool.true_or, Bool.or_false, Bool.false_or, Bool.not_true, Bool.not_false, decide_true, decide_false, eq_self, Int.cast_ofNat_Int, beq_self_eq_true, s_far_wide, s_far_turn, s_wide_far, s_wide_turn, s_turn_far, s_turn_wide, List.any_cons, List.any_nil, Int.reduceEq, Int.reduceLT, Int.reduceLE, Int.reduceAdd, Int.reduceSub, Int.reduceMul, Int.reduceNeg, Int.reduceToNat, Bool.decide_eq_true, Bool.false_eq_true, ↓reduceIte, List.length_map, bitsM_len, Nat.zero_add, Nat.reduceAdd, call_cf, dI]), rg_map]
      have tl3 := r_learnt (n := 3) ((List.range 25).map fun i : Nat => 3 * (i : Int) + 1) 1 (by decide) (by decide) (by rw [wide_25]; decide)
      rw [wide_25] at tl3
      have hW : ((List.range 25).map fun i : Nat => 3 * (i : Int) + 1).length = 25 := by decide
      generalize ((List.range 25).map fun i : Nat => 3 * (i : Int) + 1) = W at tl3 hW ⊢
      have eW : dBi .len [rowD W] = .ok (.int 25) := by rw [len_r, hW]; rfl
      have hTT : ((List.range 25).map fun i : Nat => 3 * (i : Int) + 2) = 2 :: 5 :: 8 :: (List.range 22).map fun i : Nat => 3 * (i : Int) + 11 := by decide +kernel
      have hRl : ((List.range 22).map fun i : Nat => 3 * (i : Int) + 11).length = 22 := by decide
      rw [hTT] at tl3
      generalize ((List.range 22).map fun i : Nat => 3 * (i : Int) + 11) = Q at tl3 hRl
      have hXX : ∀ i ∈ W.map (fun t => idxL 1 t (2 :: 5 :: 8 :: Q)), i < 26 := fun i hi => by
        obtain ⟨t, ht, rfl⟩ := List.mem_map.mp hi
        have := idx_le 1 t (2 :: 5 :: 8 :: Q)
        rw [List.length_cons, List.length_cons, List.length_cons, hRl] at this
        omega
      have hst := lt_strOk hXX
      generalize ltN (W.map fun t => idxL 1 t (2 :: 5 :: 8 :: Q)) = X at tl3 hst
      have kO : ∀ (ρ : Rho) (r : List S), kTld (.ok [rowD W, .int 1]) "learnt" (cf 5) 14 100000 r ρ = xss (cf 5) 100000 r (ρ.set 14 (some (.tup [.str "told", .tup [rowD (2 :: 5 :: 8 :: Q), .str (sN X)]]))) := fun ρ r => kTld_ok tl3
      have eQ : dBi .len [rowD (2 :: 5 :: 8 :: Q)] = .ok (.int 25) := by rw [len_r, List.length_cons, List.length_cons, List.length_cons, hRl]; rfl
      have eC : dCut (rowD (2 :: 5 :: 8 :: Q)) (some 3) none = .ok (.tup (Q.map D.int)) := by
        show dCut (.tup _) _ _ = _
        rw [dCut_t, cut_lo (by decide)]
        rfl
      have eA : dBin .Add (.tup [.int 2, .int 5, .int 8]) (rowD Q) = .ok (rowD (2 :: 5 :: 8 :: Q)) := add_tt (by rw [List.length_map, hRl]; decide)
      have hsh2 : shD 9 (.tup [.str "told", .tup [rowD (2 :: 5 :: 8 :: Q), .str (sN X)]]) = true := by
        rw [sh9t, List.all_cons, List.all_cons, List.all_nil, sh_str, sh8t, List.all_cons, List.all_cons, List.all_nil, sh_str, hst, show shD 7 (rowD (2 :: 5 :: 8 :: Q)) = true from sh_ints _, show PyData.strOk ("told" : Str) = true by decide +kernel]
        rfl
      have hs2 := deq_self 9 _ hsh2
      simp -implicitDefEqProofs (disch := first | exact sh_int | assumption | omega | (simp -implicitDefEqProofs only [List.length_cons, List.length_nil, List.length_map, List.length_append, List.length_reverse, List.length_take, List.length_drop, List.length_set, List.length_replicate, bitsM_len, bitsL_len]; omega) | (simp -implicitDefEqProofs only [sh_int, sh_oI, sh8_pairs, sh8_rows, sh8_row, sh9_row, sh9_p, sh_bl, sh_non, sh9t, sh9l, sh8t, sh8l, sh7t, sh7l, sh6t, sh6l, sh5t, sh5l, sh4t, sh4l, sh_ints, sh_str, List.all_cons, List.all_nil, List.all_append, List.all_reverse, Bool.and_true, Bool.and_self]; done) | (simp -implicitDefEqProofs only [sh_int, sh_oI, sh8_pairs, sh8_rows, sh8_row, sh9_row, sh9_p, sh_bl, sh_non, sh9t, sh9l, sh8t, sh8l, sh7t, sh7l, sh6t, sh6l, sh5t, sh5l, sh4t, sh4l, sh_ints, sh_str, List.all_cons, List.all_nil, List.all_append, List.all_reverse, Bool.and_true, Bool.and_self]; decide +kernel)) only [ev_var, ev_cst, ev_glb, ev_bin, ev_cmp, ev_neg, ev_not, ev_chn, ev_and, ev_or, ev_idx, ev_cut, ev_stp, ev_tup, ev_lst, ev_call, ev_bi, ev_isi, ev_lc, ev_mth, ev_rpl, ev_kin, ev_kget, ev_sst, ev_lss, evs_nil, evs_cons, b1_ok, b2_ok, bs_ok, bcons_ok, band_t, band_f, band_b, bor_t, bor_f, bor_b, b3_ok, dNot_b, dNeg_i, prt_f, prt_t, blc_ok, bit_ok, dTup_ok, dLst_ok, add_ii, sub_ii, mul_l, mul_r, div_ii, mod_ii, add_tt, add_ll, mul_t1i, mul_l1i, lt_ii, le_ii, gt_ii, ge_ii, chn_le, is_bb, isn_bb, is_nn, is_in, isn_nn, isn_in, is_on, isn_on, deq_nn, deq_ni, deq_in, deq_oi, deq_oo, sh_oI, oI_s, oI_n, eq_ok, ne_ok, in_tup, nin_tup, in_lst, nin_lst, sh_int, sh_bl, sh_non, sh_str, sh_ints, deq_ii, deq_bb, deq_ss, deq_tt, deq_ll, deqL_nil, deqL_cons, deqL_nc, deqL_cn, deqL_ints, deqL_pairs, deqL_rows, deq_rr, deq_pp, get_0, get_s, ix_t0, ix_t1, ix_t2, ix_t3, ix_t4, ix_t5, ix_t6, ix_l0, ix_l1, ix_l2, ix_l3, ix_l4, ix_l5, ix_lb, ix_tb, dCut_t, dCut_l, rev_t, rev_l, even_t, odd_t, even_l, odd_l, len_t, len_l, int_b, int_i, tuple_t, tuple_l, list_t, list_l, abs_i, sum_t, sum_l, max_2, min_2, max_3, min_3, all_l, isi_ii, isi_ib, isi_is, isi_it, isi_il, isi_bi, isi_bb, isi_bt, isi_bs, isi_tt, isi_tl, isi_ti, isi_ts, isi_ll, isi_lt, isi_li, isi_ls, isi_ss, isi_si, isi_st, isi_sb, it_t, it_l, it_r1, it_r2, it_et, it_el, it_ztt, it_zll, it_ztl, it_zlt, lcFn_1, lcFn_2, cdR_t, cdR_f, cdR_b, xs_nil, xs_set, xs_own, xs_unp, xs_app, xs_ext, xs_put, kExt_ok, kPut_last, xs_frz, xs_pas, xs_ret, xs_ife, xs_for, kSet_ok, kOwn_ok, kUnp_t, kUnp_l, kApp_ok, kRet_ok, kIf_t, kIf_f, kSeq_n, kSeq_r, kFor_ok, forFn_1, forFn_2, setAll_n, setAll_c, fin_r, fin_n, wipe_n, wipe_c, kGo_n, kGo_r, List.set_cons_zero, List.set_cons_succ, List.cons_append, List.nil_append, List.length_cons, List.length_nil, List.all_cons, List.all_nil, Bool.and_true, Bool.true_and, Bool.and_false, Bool.false_and, Bool.or_true, Bool.true_or, Bool.or_false, Bool.false_or, Bool.not_true, Bool.not_false, decide_true, decide_false, eq_self, Int.cast_ofNat_Int, beq_self_eq_true, s_far_wide, s_far_turn, s_wide_far, s_wide_turn, s_turn_far, s_turn_wide, List.any_cons, List.any_nil, Int.reduceEq, Int.reduceLT, Int.reduceLE, Int.reduceAdd, Int.reduceSub, Int.reduceMul, Int.reduceNeg, Int.reduceToNat, Bool.decide_eq_true, Bool.false_eq_true, ↓reduceIte, List.length_map, bitsM_len, Nat.zero_add, Nat.reduceAdd, call_cf, rowD_eq, xs_told, kO, eW, eQ, eC, eA, hsh2, hs2]
    · simp -implicitDefEqProofs (disch := first | exact sh_int | assumption | omega | (simp -implicitDefEqProofs only [List.length_cons, List.length_nil, List.length_map, List.length_append, List.length_reverse, List.length_take, List.length_drop, List.length_set, List.length_replicate, bitsM_len, bitsL_len]; omega) | (simp -implicitDefEqProofs only [sh_int, sh_oI, sh8_pairs, sh8_rows, sh8_row, sh9_row, sh9_p, sh_bl, sh_non, sh9t, sh9l, sh8t, sh8l, sh7t, sh7l, sh6t, sh6l, sh5t, sh5l, sh4t, sh4l, sh_ints, sh_str, List.all_cons, List.all_nil, List.all_append, List.all_reverse, Bool.and_true, Bool.and_self]; done) | (simp -implicitDefEqProofs only [sh_int, sh_oI, sh8_pairs, sh8_rows, sh8_row, sh9_row, sh9_p, sh_bl, sh_non, sh9t, sh9l, sh8t, sh8l, sh7t, sh7l, sh6t, sh6l, sh5t, sh5l, sh4t, sh4l, sh_ints, sh_str, List.all_cons, List.all_nil, List.all_append, List.all_reverse, Bool.and_true, Bool.and_self]; decide +kernel)) only [ev_var, ev_cst, ev_glb, ev_bin, ev_cmp, ev_neg, ev_not, ev_chn, ev_and, ev_or, ev_idx, ev_cut, ev_stp, ev_tup, ev_lst, ev_call, ev_bi, ev_isi, ev_lc, ev_mth, ev_rpl, ev_kin, ev_kget, ev_sst, ev_lss, evs_nil, evs_cons, b1_ok, b2_ok, bs_ok, bcons_ok, band_t, band_f, band_b, bor_t, bor_f, bor_b, b3_ok, dNot_b, dNeg_i, prt_f, prt_t, blc_ok, bit_ok, dTup_ok, dLst_ok, add_ii, sub_ii, mul_l, mul_r, div_ii, mod_ii, add_tt, add_ll, mul_t1i, mul_l1i, lt_ii, le_ii, gt_ii, ge_ii, chn_le, is_bb, isn_bb, is_nn, is_in, isn_nn, isn_in, is_on, isn_on, deq_nn, deq_ni, deq_in, deq_oi, deq_oo, sh_oI, oI_s, oI_n, eq_ok, ne_ok, in_tup, nin_tup, in_lst, nin_lst, sh_int, sh_bl, sh_non, sh_str, sh_ints, deq_ii, deq_bb, deq_ss, deq_tt, deq_ll, deqL_nil, deqL_cons, deqL_nc, deqL_cn, deqL_ints, deqL_pairs, deqL_rows, deq_rr, deq_pp, get_0, get_s, ix_t0, ix_t1, ix_t2, ix_t3, ix_t4, ix_t5, ix_t6, ix_l0, ix_l1, ix_l2, ix_l3, ix_l4, ix_l5, ix_lb, ix_tb, dCut_t, dCut_l, rev_t, rev_l, even_t, odd_t, even_l, odd_l, len_t, len_l, int_b, int_i, tuple_t, tuple_l, list_t, list_l, abs_i, sum_t, sum_l, max_2, min_2, max_3, min_3, all_l, isi_ii, isi_ib, isi_is, isi_it, isi_il, isi_bi, isi_bb, isi_bt, isi_bs, isi_tt, isi_tl, isi_ti, isi_ts, isi_ll, isi_lt, isi_li, isi_ls, isi_ss, isi_si, isi_st, isi_sb, it_t, it_l, it_r1, it_r2, it_et, it_el, it_ztt, it_zll, it_ztl, it_zlt, lcFn_1, lcFn_2, cdR_t, cdR_f, cdR_b, xs_nil, xs_set, xs_own, xs_unp, xs_app, xs_ext, xs_put, kExt_ok, kPut_last, xs_frz, xs_pas, xs_ret, xs_ife, xs_for, kSet_ok, kOwn_ok, kUnp_t, kUnp_l, kApp_ok, kRet_ok, kIf_t, kIf_f, kSeq_n, kSeq_r, kFor_ok, forFn_1, forFn_2, setAll_n, setAll_c, fin_r, fin_n, wipe_n, wipe_c, kGo_n, kGo_r, List.set_cons_zero, List.set_cons_succ, List.cons_append, List.nil_append, List.length_cons, List.length_nil, List.all_cons, List.all_nil, Bool.and_true, Bool.true_and, Bool.and_false, Bool.false_and, Bool.or_true, Bool.true_or, Bool.or_false, Bool.false_or, Bool.not_true, Bool.not_false, decide_true, decide_false, eq_self, Int.cast_ofNat_Int, beq_self_eq_true, s_far_wide, s_far_turn, s_wide_far, s_wide_turn, s_turn_far, s_turn_wide, List.any_cons, List.any_nil, Int.reduceEq, Int.reduceLT, Int.reduceLE, Int.reduceAdd, Int.reduceSub, Int.reduceMul, Int.reduceNeg, Int.reduceToNat, Bool.decide_eq_true, Bool.false_eq_true, ↓reduceIte, List.length_map, bitsM_len, Nat.zero_add, Nat.reduceAdd, call_cf, z, Int.reduceMul, Int.reduceAdd]
      rw [lcS_map (dI fun k => 3 * k + 1) (by rw [rgL_len]; decide) (fun d hd => by
        obtain ⟨i, hi, rfl⟩ := rgL_mem hd
        simp -implicitDefEqProofs (disch := first | exact sh_int | assumption | omega | (simp -implicitDefEqProofs only [List.length_cons, List.length_nil, List.length_map, List.length_append, List.length_reverse, List.length_take, List.length_drop, List.length_set, List.length_replicate, bitsM_len, bitsL_len]; omega) | (simp -implicitDefEqProofs only [sh_int, sh_oI, sh8_pairs, sh8_rows, sh8_row, sh9_row, sh9_p, sh_bl, sh_non, sh9t, sh9l, sh8t, sh8l, sh7t, sh7l, sh6t, sh6l, sh5t, sh5l, sh4t, sh4l, sh_ints, sh_str, List.all_cons, List.all_nil, List.all_append, List.all_reverse, Bool.and_true, Bool.and_self]; done) | (simp -implicitDefEqProofs only [sh_int, sh_oI, sh8_pairs, sh8_rows, sh8_row, sh9_row, sh9_p, sh_bl, sh_non, sh9t, sh9l, sh8t, sh8l, sh7t, sh7l, sh6t, sh6l, sh5t, sh5l, sh4t, sh4l, sh_ints, sh_str, List.all_cons, List.all_nil, List.all_append, List.all_reverse, Bool.and_true, Bool.and_self]; decide +kernel)) only [ev_var, ev_cst, ev_glb, ev_bin, ev_cmp, ev_neg, ev_not, ev_chn, ev_and, ev_or, ev_idx, ev_cut, ev_stp, ev_tup, ev_lst, ev_call, ev_bi, ev_isi, ev_lc, ev_mth, ev_rpl, ev_kin, ev_kget, ev_sst, ev_lss, evs_nil, evs_cons, b1_ok, b2_ok, bs_ok, bcons_ok, band_t, band_f, band_b, bor_t, bor_f, bor_b, b3_ok, dNot_b, dNeg_i, prt_f, prt_t, blc_ok, bit_ok, dTup_ok, dLst_ok, add_ii, sub_ii, mul_l, mul_r, div_ii, mod_ii, add_tt, add_ll, mul_t1i, mul_l1i, lt_ii, le_ii, gt_ii, ge_ii, chn_le, is_bb, isn_bb, is_nn, is_in, isn_nn, isn_in, is_on, isn_on, deq_nn, deq_ni, deq_in, deq_oi, deq_oo, sh_oI, oI_s, oI_n, eq_ok, ne_ok, in_tup, nin_tup, in_lst, nin_lst, sh_int, sh_bl, sh_non, sh_str, sh_ints, deq_ii, deq_bb, deq_ss, deq_tt, deq_ll, deqL_nil, deqL_cons, deqL_nc, deqL_cn, deqL_ints, deqL_pairs, deqL_rows, deq_rr, deq_pp, get_0, get_s, ix_t0, ix_t1, ix_t2, ix_t3, ix_t4, ix_t5, ix_t6, ix_l0, ix_l1, ix_l2, ix_l3, ix_l4, ix_l5, ix_lb, ix_tb, dCut_t, dCut_l, rev_t, rev_l, even_t, odd_t, even_l, odd_l, len_t, len_l, int_b, int_i, tuple_t, tuple_l, list_t, list_l, abs_i, sum_t, sum_l, max_2, min_2, max_3, min_3, all_l, isi_ii, isi_ib, isi_is, isi_it, isi_il, isi_bi, isi_bb, isi_bt, isi_bs, isi_tt, isi_tl, isi_ti, isi_ts, isi_ll, isi_lt, isi_li, isi_ls, isi_ss, isi_si, isi_st, isi_sb, it_t, it_l, it_r1, it_r2, it_et, it_el, it_ztt, it_zll, it_ztl, it_zlt, lcFn_1, lcFn_2, cdR_t, cdR_f, cdR_b, xs_nil, xs_set, xs_own, xs_unp, xs_app, xs_ext, xs_put, kExt_ok, kPut_last, xs_frz, xs_pas, xs_ret, xs_ife, xs_for, kSet_ok, kOwn_ok, kUnp_t, kUnp_l, kApp_ok, kRet_ok, kIf_t, kIf_f, kSeq_n, kSeq_r, kFor_ok, forFn_1, forFn_2, setAll_n, setAll_c, fin_r, fin_n, wipe_n, wipe_c, go_nil, go_cons, kGo_n, kGo_r, List.set_cons_zero, List.set_cons_succ, List.cons_append, List.nil_append, List.length_cons, List.length_nil, List.all_cons, List.all_nil, Bool.and_true, Bool.true_and, Bool.and_false, Bool.false_and, Bool.or_true, Bool.true_or, Bool.or_false, Bool.false_or, Bool.not_true, Bool.not_false, decide_true, decide_false, eq_self, Int.cast_ofNat_Int, beq_self_eq_true, s_far_wide, s_far_turn, s_wide_far, s_wide_turn, s_turn_far, s_turn_wide, List.any_cons, List.any_nil, Int.reduceEq, Int.reduceLT, Int.reduceLE, Int.reduceAdd, Int.reduceSub, Int.reduceMul, Int.reduceNeg, Int.reduceToNat, Bool.decide_eq_true, Bool.false_eq_true, ↓reduceIte, List.length_map, bitsM_len, Nat.zero_add, Nat.reduceAdd, call_cf, dI]), rg_map]
      obtain ⟨u1, u2⟩ := room_no (n := 3)
      have hW : ((List.range 27).map fun i : Nat => 3 * (i : Int) + 1).length = 27 := by decide
      generalize ((List.range 27).map fun i : Nat => 3 * (i : Int) + 1) = W at u1 u2 hW ⊢
      have eW : dBi .len [rowD W] = .ok (.int 27) := by rw [len_r, hW]; rfl
      have kO : ∀ (ρ : Rho) (r : List S), kTld (.ok [rowD W, .int 1]) "learnt" (cf 5) 14 100000 r ρ = xss (cf 5) 100000 r (ρ.set 14 (some (.tup [.str "refused", .int 1]))) := fun ρ r => kTld_R u1 u2
      simp -implicitDefEqProofs (disch := first | exact sh_int | assumption | omega | (simp -implicitDefEqProofs only [List.length_cons, List.length_nil, List.length_map, List.length_append, List.length_reverse, List.length_take, List.length_drop, List.length_set, List.length_replicate, bitsM_len, bitsL_len]; omega) | (simp -implicitDefEqProofs only [sh_int, sh_oI, sh8_pairs, sh8_rows, sh8_row, sh9_row, sh9_p, sh_bl, sh_non, sh9t, sh9l, sh8t, sh8l, sh7t, sh7l, sh6t, sh6l, sh5t, sh5l, sh4t, sh4l, sh_ints, sh_str, List.all_cons, List.all_nil, List.all_append, List.all_reverse, Bool.and_true, Bool.and_self]; done) | (simp -implicitDefEqProofs only [sh_int, sh_oI, sh8_pairs, sh8_rows, sh8_row, sh9_row, sh9_p, sh_bl, sh_non, sh9t, sh9l, sh8t, sh8l, sh7t, sh7l, sh6t, sh6l, sh5t, sh5l, sh4t, sh4l, sh_ints, sh_str, List.all_cons, List.all_nil, List.all_append, List.all_reverse, Bool.and_true, Bool.and_self]; decide +kernel)) only [ev_var, ev_cst, ev_glb, ev_bin, ev_cmp, ev_neg, ev_not, ev_chn, ev_and, ev_or, ev_idx, ev_cut, ev_stp, ev_tup, ev_lst, ev_call, ev_bi, ev_isi, ev_lc, ev_mth, ev_rpl, ev_kin, ev_kget, ev_sst, ev_lss, evs_nil, evs_cons, b1_ok, b2_ok, bs_ok, bcons_ok, band_t, band_f, band_b, bor_t, bor_f, bor_b, b3_ok, dNot_b, dNeg_i, prt_f, prt_t, blc_ok, bit_ok, dTup_ok, dLst_ok, add_ii, sub_ii, mul_l, mul_r, div_ii, mod_ii, add_tt, add_ll, mul_t1i, mul_l1i, lt_ii, le_ii, gt_ii, ge_ii, chn_le, is_bb, isn_bb, is_nn, is_in, isn_nn, isn_in, is_on, isn_on, deq_nn, deq_ni, deq_in, deq_oi, deq_oo, sh_oI, oI_s, oI_n, eq_ok, ne_ok, in_tup, nin_tup, in_lst, nin_lst, sh_int, sh_bl, sh_non, sh_str, sh_ints, deq_ii, deq_bb, deq_ss, deq_tt, deq_ll, deqL_nil, deqL_cons, deqL_nc, deqL_cn, deqL_ints, deqL_pairs, deqL_rows, deq_rr, deq_pp, get_0, get_s, ix_t0, ix_t1, ix_t2, ix_t3, ix_t4, ix_t5, ix_t6, ix_l0, ix_l1, ix_l2, ix_l3, ix_l4, ix_l5, ix_lb, ix_tb, dCut_t, dCut_l, rev_t, rev_l, even_t, odd_t, even_l, odd_l, len_t, len_l, int_b, int_i, tuple_t, tuple_l, list_t, list_l, abs_i, sum_t, sum_l, max_2, min_2, max_3, min_3, all_l, isi_ii, isi_ib, isi_is, isi_it, isi_il, isi_bi, isi_bb, isi_bt, isi_bs, isi_tt, isi_tl, isi_ti, isi_ts, isi_ll, isi_lt, isi_li, isi_ls, isi_ss, isi_si, isi_st, isi_sb, it_t, it_l, it_r1, it_r2, it_et, it_el, it_ztt, it_zll, it_ztl, it_zlt, lcFn_1, lcFn_2, cdR_t, cdR_f, cdR_b, xs_nil, xs_set, xs_own, xs_unp, xs_app, xs_ext, xs_put, kExt_ok, kPut_last, xs_frz, xs_pas, xs_ret, xs_ife, xs_for, kSet_ok, kOwn_ok, kUnp_t, kUnp_l, kApp_ok, kRet_ok, kIf_t, kIf_f, kSeq_n, kSeq_r, kFor_ok, forFn_1, forFn_2, setAll_n, setAll_c, fin_r, fin_n, wipe_n, wipe_c, kGo_n, kGo_r, List.set_cons_zero, List.set_cons_succ, List.cons_append, List.nil_append, List.length_cons, List.length_nil, List.all_cons, List.all_nil, Bool.and_true, Bool.true_and, Bool.and_false, Bool.false_and, Bool.or_true, Bool.true_or, Bool.or_false, Bool.false_or, Bool.not_true, Bool.not_false, decide_true, decide_false, eq_self, Int.cast_ofNat_Int, beq_self_eq_true, s_far_wide, s_far_turn, s_wide_far, s_wide_turn, s_turn_far, s_turn_wide, List.any_cons, List.any_nil, Int.reduceEq, Int.reduceLT, Int.reduceLE, Int.reduceAdd, Int.reduceSub, Int.reduceMul, Int.reduceNeg, Int.reduceToNat, Bool.decide_eq_true, Bool.false_eq_true, ↓reduceIte, List.length_map, bitsM_len, Nat.zero_add, Nat.reduceAdd, call_cf, rowD_eq, xs_told, kO, eW]
theorem sc_times_for : FnScope ["row", "slip", "found", "time"] ["row", "slip"] (defScope (topS 6)) := ⟨rfl, rfl, rfl, by decide +kernel, rfl, by decide +kernel, by decide +kernel⟩
theorem ck_times_for : (chkSs pg ["row", "slip", "found", "time"] (defScope (topS 6)) [] f_times_for.body (defBody (topS 6))).isSome = true := by decide +kernel
theorem sc_letter_of : FnScope ["times", "time", "slip", "at", "one"] ["times", "time", "slip"] (defScope (topS 7)) := ⟨rfl, rfl, rfl, by decide +kernel, rfl, by decide +kernel, by decide +kernel⟩
theorem ck_letter_of : (chkSs pg ["times", "time", "slip", "at", "one"] (defScope (topS 7)) [] f_letter_of.body (defBody (topS 7))).isSome = true := by decide +kernel
theorem sc_learnt : FnScope ["row", "slip", "times", "time"] ["row", "slip"] (defScope (topS 8)) := ⟨rfl, rfl, rfl, by decide +kernel, rfl, by decide +kernel, by decide +kernel⟩
theorem ck_learnt : (chkSs pg ["row", "slip", "times", "time"] (defScope (topS 8)) [] f_learnt.body (defBody (topS 8))).isSome = true := by decide +kernel
theorem sc_unlearnt : FnScope ["times", "letters", "letter"] ["times", "letters"] (defScope (topS 9)) := ⟨rfl, rfl, rfl, by decide +kernel, rfl, by decide +kernel, by decide +kernel⟩
theorem ck_unlearnt : (chkSs pg ["times", "letters", "letter"] (defScope (topS 9)) [] f_unlearnt.body (defBody (topS 9))).isSome = true := by decide +kernel
theorem sc__law_cell_at : FnScope ["script", "k"] ["script", "k"] (defScope (topS 11)) := ⟨rfl, rfl, rfl, by decide +kernel, rfl, by decide +kernel, by decide +kernel⟩
theorem ck__law_cell_at : (chkSs pg ["script", "k"] (defScope (topS 11)) [] f__law_cell_at.body (defBody (topS 11))).isSome = true := by decide +kernel
theorem sc__law_mixed : FnScope ["script", "k", "drawn"] ["script", "k"] (defScope (topS 12)) := ⟨rfl, rfl, rfl, by decide +kernel, rfl, by decide +kernel, by decide +kernel⟩
theorem ck__law_mixed : (chkSs pg ["script", "k", "drawn"] (defScope (topS 12)) [] f__law_mixed.body (defBody (topS 12))).isSome = true := by decide +kernel
theorem sc__law_drawn : FnScope ["number", "k", "drawn"] ["number", "k"] (defScope (topS 13)) := ⟨rfl, rfl, rfl, by decide +kernel, rfl, by decide +kernel, by decide +kernel⟩
theorem ck__law_drawn : (chkSs pg ["number", "k", "drawn"] (defScope (topS 13)) [] f__law_drawn.body (defBody (topS 13))).isSome = true := by decide +kernel
theorem sc__law_row : FnScope ["number", "most", "span", "many", "k"] ["number", "most", "span"] (defScope (topS 15)) := ⟨rfl, rfl, rfl, by decide +kernel, rfl, by decide +kernel, by decide +kernel⟩
theorem ck__law_row : (chkSs pg ["number", "most", "span", "many", "k"] (defScope (topS 15)) [] f__law_row.body (defBody (topS 15))).isSome = true := by decide +kernel
theorem sc__law_learnt : FnScope ["row", "slip", "left", "times", "time", "letters", "near", "at", "one"] ["row", "slip"] (defScope (topS 16)) := ⟨rfl, rfl, rfl, by decide +kernel, rfl, by decide +kernel, by decide +kernel⟩
theorem ck__law_learnt : (chkSs pg ["row", "slip", "left", "times", "time", "letters", "near", "at", "one"] (defScope (topS 16)) [] f__law_learnt.body (defBody (topS 16))).isSome = true := by decide +kernel
theorem sc_law : FnScope ["script", "number", "row", "slip", "due", "times", "letters", "every", "letter", "odd", "some", "others", "sign", "good", "got", "wide", "k"] ["script"] (defScope (topS 17)) := ⟨rfl, rfl, rfl, by decide +kernel, rfl, by decide +kernel, by decide +kernel⟩
theorem ck_law : chkLs pg ["script", "number", "row", "slip", "due", "times", "letters", "every", "letter", "odd", "some", "others", "sign", "good", "got", "wide", "k"] (defScope (topS 17)) ["learnt", "unlearnt", "times_for"] f_law.body (defBody (topS 17)) = true := by decide +kernel
theorem ckx_learnt : chkXs pg ["row", "slip", "times", "time"] ["learnt", "unlearnt", "times_for"] ["NoText", "NoRoom"] (defScope (topS 8)) [] f_learnt.body (defBody (topS 8)) = true := by decide +kernel
theorem ckx_unlearnt : chkXs pg ["times", "letters", "letter"] ["learnt", "unlearnt", "times_for"] ["NoText", "NoRoom"] (defScope (topS 9)) [] f_unlearnt.body (defBody (topS 9)) = true := by decide +kernel
theorem ckx_times_for : chkXs pg ["row", "slip", "found", "time"] ["learnt", "unlearnt", "times_for"] ["NoText", "NoRoom"] (defScope (topS 6)) [] f_times_for.body (defBody (topS 6)) = true := by decide +kernel
theorem sc_told : FnScope tldN ["deed"] (defScope (topS 14)) := ⟨rfl, rfl, rfl, by decide +kernel, rfl, by decide +kernel, by decide +kernel⟩
theorem ck_told : tldOk (defScope (topS 14)) (defBody (topS 14)) = true := by decide +kernel
theorem all_mk {l : PySem.W.OpenLaw} {w : World} {K : PySem.W.Frag} {h : Heap} {mg : Str → Option Value} {fa : Addr} (X : K.In h) (G : h.Ns mainGlobals mg) (hfa : mg "law" = some (.ref fa))
    {g1 : Addr} {od1 an1 : Option Addr} {sl1 : Array (Option Value)} {oc1 kv1 dc1 pm1 cd1 ct1 : Value}
    {g2 : Addr} {od2 an2 : Option Addr} {sl2 : Array (Option Value)} {oc2 kv2 dc2 pm2 cd2 ct2 : Value}
    {g3 : Addr} {od3 an3 : Option Addr} {sl3 : Array (Option Value)} {oc3 kv3 dc3 pm3 cd3 ct3 : Value}
    {g4 : Addr} {od4 an4 : Option Addr} {sl4 : Array (Option Value)} {oc4 kv4 dc4 pm4 cd4 ct4 : Value}
    {g5 : Addr} {od5 an5 : Option Addr} {sl5 : Array (Option Value)} {oc5 kv5 dc5 pm5 cd5 ct5 : Value}
    {g6 : Addr} {od6 an6 : Option Addr} {sl6 : Array (Option Value)} {oc6 kv6 dc6 pm6 cd6 ct6 : Value}
    {g7 : Addr} {od7 an7 : Option Addr} {sl7 : Array (Option Value)} {oc7 kv7 dc7 pm7 cd7 ct7 : Value}
    {g8 : Addr} {od8 an8 : Option Addr} {sl8 : Array (Option Value)} {oc8 kv8 dc8 pm8 cd8 ct8 : Value}
    {g9 : Addr} {od9 an9 : Option Addr} {sl9 : Array (Option Value)} {oc9 kv9 dc9 pm9 cd9 ct9 : Value}
    {w1 : _}
    {gL : Addr} {odL anL : Option Addr} {slL : Array (Option Value)} {ocL kvL dcL pmL cdL ctL : Value}
    {gT : Addr} {odT anT : Option Addr} {slT : Array (Option Value)} {ocT kvT dcT pmT cdT ctT : Value}
    {cc PP : Addr} {cdd : Option Addr} {cvs : Array Value} {csl : Array (Option Value)}
    {xL xT xR : Addr}
    (a1 : PySem.W.nsIn K mainGlobals "times_for" = some (some (.ref g1)))
    (l1 : K.lookup g1 = some ⟨oc1, od1, .func (PySem.W.fnOf "times_for" "times_for" (defArgs (topS 6)) (defBody (topS 6)) (defScope (topS 6)) .none kv1 dc1 pm1 an1 cd1 ct1), sl1⟩)
    (c1 : PySem.W.codeIn K cd1 "times_for" = true) (k1 : PySem.W.keepIn K (.ref g1) = true)
    (a2 : PySem.W.nsIn K mainGlobals "letter_of" = some (some (.ref g2)))
    (l2 : K.lookup g2 = some ⟨oc2, od2, .func (PySem.W.fnOf "letter_of" "letter_of" (defArgs (topS 7)) (defBody (topS 7)) (defScope (topS 7)) .none kv2 dc2 pm2 an2 cd2 ct2), sl2⟩)
    (c2 : PySem.W.codeIn K cd2 "letter_of" = true) (k2 : PySem.W.keepIn K (.ref g2) = true)
    (a3 : PySem.W.nsIn K mainGlobals "learnt" = some (some (.ref g3)))
    (l3 : K.lookup g3 = some ⟨oc3, od3, .func (PySem.W.fnOf "learnt" "learnt" (defArgs (topS 8)) (defBody (topS 8)) (defScope (topS 8)) .none kv3 dc3 pm3 an3 cd3 ct3), sl3⟩)
    (c3 : PySem.W.codeIn K cd3 "learnt" = true) (k3 : PySem.W.keepIn K (.ref g3) = true)
    (a4 : PySem.W.nsIn K mainGlobals "unlearnt" = some (some (.ref g4)))
    (l4 : K.lookup g4 = some ⟨oc4, od4, .func (PySem.W.fnOf "unlearnt" "unlearnt" (defArgs (topS 9)) (defBody (topS 9)) (defScope (topS 9)) .none kv4 dc4 pm4 an4 cd4 ct4), sl4⟩)
    (c4 : PySem.W.codeIn K cd4 "unlearnt" = true) (k4 : PySem.W.keepIn K (.ref g4) = true)
    (a5 : PySem.W.nsIn K mainGlobals "_law_cell_at" = some (some (.ref g5)))
    (l5 : K.lookup g5 = some ⟨oc5, od5, .func (PySem.W.fnOf "_law_cell_at" "_law_cell_at" (defArgs (topS 11)) (defBody (topS 11)) (defScope (topS 11)) .none kv5 dc5 pm5 an5 cd5 ct5), sl5⟩)
    (c5 : PySem.W.codeIn K cd5 "_law_cell_at" = true) (k5 : PySem.W.keepIn K (.ref g5) = true)
    (a6 : PySem.W.nsIn K mainGlobals "_law_mixed" = some (some (.ref g6)))
    (l6 : K.lookup g6 = some ⟨oc6, od6, .func (PySem.W.fnOf "_law_mixed" "_law_mixed" (defArgs (topS 12)) (defBody (topS 12)) (defScope (topS 12)) .none kv6 dc6 pm6 an6 cd6 ct6), sl6⟩)
    (c6 : PySem.W.codeIn K cd6 "_law_mixed" = true) (k6 : PySem.W.keepIn K (.ref g6) = true)
    (a7 : PySem.W.nsIn K mainGlobals "_law_drawn" = some (some (.ref g7)))
    (l7 : K.lookup g7 = some ⟨oc7, od7, .func (PySem.W.fnOf "_law_drawn" "_law_drawn" (defArgs (topS 13)) (defBody (topS 13)) (defScope (topS 13)) .none kv7 dc7 pm7 an7 cd7 ct7), sl7⟩)
    (c7 : PySem.W.codeIn K cd7 "_law_drawn" = true) (k7 : PySem.W.keepIn K (.ref g7) = true)
    (a8 : PySem.W.nsIn K mainGlobals "_law_row" = some (some (.ref g8)))
    (l8 : K.lookup g8 = some ⟨oc8, od8, .func (PySem.W.fnOf "_law_row" "_law_row" (defArgs (topS 15)) (defBody (topS 15)) (defScope (topS 15)) .none kv8 dc8 pm8 an8 cd8 ct8), sl8⟩)
    (c8 : PySem.W.codeIn K cd8 "_law_row" = true) (k8 : PySem.W.keepIn K (.ref g8) = true)
    (a9 : PySem.W.nsIn K mainGlobals "_law_learnt" = some (some (.ref g9)))
    (l9 : K.lookup g9 = some ⟨oc9, od9, .func (PySem.W.fnOf "_law_learnt" "_law_learnt" (defArgs (topS 16)) (defBody (topS 16)) (defScope (topS 16)) .none kv9 dc9 pm9 an9 cd9 ct9), sl9⟩)
    (c9 : PySem.W.codeIn K cd9 "_law_learnt" = true) (k9 : PySem.W.keepIn K (.ref g9) = true)
    (z_len : PySem.W.nsIn K mainGlobals "len" = some none)
    (z_int : PySem.W.nsIn K mainGlobals "int" = some none)
    (z_str : PySem.W.nsIn K mainGlobals "str" = some none)
    (z_tuple : PySem.W.nsIn K mainGlobals "tuple" = some none)
    (z_list : PySem.W.nsIn K mainGlobals "list" = some none)
    (z_sum : PySem.W.nsIn K mainGlobals "sum" = some none)
    (z_max : PySem.W.nsIn K mainGlobals "max" = some none)
    (z_min : PySem.W.nsIn K mainGlobals "min" = some none)
    (z_abs : PySem.W.nsIn K mainGlobals "abs" = some none)
    (z_all : PySem.W.nsIn K mainGlobals "all" = some none)
    (z_sorted : PySem.W.nsIn K mainGlobals "sorted" = some none)
    (z_isinstance : PySem.W.nsIn K mainGlobals "isinstance" = some none)
    (z_range : PySem.W.nsIn K mainGlobals "range" = some none)
    (z_enumerate : PySem.W.nsIn K mainGlobals "enumerate" = some none)
    (z_zip : PySem.W.nsIn K mainGlobals "zip" = some none)
    (z_bool : PySem.W.nsIn K mainGlobals "bool" = some none)
    (z_set : PySem.W.nsIn K mainGlobals "set" = some none)
    (e1 : PySem.W.nsIn K mainGlobals "LETTERS" = some (some (.str "abcdefghijklmnopqrstuvwxyz" w1)))
    (nl : noLst K = true)
    (aL : PySem.W.nsIn K mainGlobals "law" = some (some (.ref gL)))
    (lL : K.lookup gL = some ⟨ocL, odL, .func (PySem.W.fnOf "law" "law" (defArgs (topS 17)) (defBody (topS 17)) (defScope (topS 17)) .none kvL dcL pmL anL cdL ctL), slL⟩)
    (cL : PySem.W.codeIn K cdL "law" = true) (kL : PySem.W.keepIn K (.ref gL) = true)
    (aT : PySem.W.nsIn K mainGlobals "_law_told" = some (some (.ref gT)))
    (lT : K.lookup gT = some ⟨ocT, odT, .func (PySem.W.fnOf "_law_told" "_law_told" (defArgs (topS 14)) (defBody (topS 14)) (defScope (topS 14)) .none kvT dcT pmT anT cdT ctT), slT⟩)
    (cT : PySem.W.codeIn K cdT "_law_told" = true) (kT : PySem.W.keepIn K (.ref gT) = true)
    (cq : cdL = .ref cc) (lcc : K.lookup cc = some ⟨.type "code", cdd, .fields cvs, csl⟩) (cvP : cvs[11]? = some (.ref PP)) (chd : hdIn cc PP cvs = true) (nP : K.lookup PP = none)
    (xaL : PySem.W.nsIn K mainGlobals "LampError" = some (some (.ref xL)))
    (xaT : PySem.W.nsIn K mainGlobals "NoText" = some (some (.ref xT)))
    (xaR : PySem.W.nsIn K mainGlobals "NoRoom" = some (some (.ref xR)))
    (xkT : PySem.W.keepIn K (.ref xT) = true)
    (xeT : PySem.W.excIn K xT bmVE "ValueError.__new__" = true)
    (xsT : PySem.W.subIn K (.ref xT) (.type "BaseException") = some true)
    (xtT : PySem.W.typeIn K (.ref xT) = some (.type "type"))
    (xgT : PySem.W.findIn K (.ref xT) "__getattribute__" = some (some (.builtin "BaseException.__getattribute__")))
    (xhT : PySem.W.findIn K (.ref xT) "__getattr__" = some none)
    (xdT : PySem.W.hasDictIn K xT = true)
    (xcT : PySem.W.findIn K (.ref xT) "__class__" = some (some (.builtin "object.__class__")))
    (xoT : PySem.W.mroIn K xT (.type "object") = some true)
    (xmT : PySem.W.exmOne K (.ref xT) (.ref xL) = some true)
    (xqTT : PySem.W.kitOne K (.ref xT) (.ref xT) = some true)
    (xqTR : PySem.W.kitOne K (.ref xT) (.ref xR) = some false)
    (xqTV : PySem.W.kitOne K (.ref xT) (.type "ValueError") = some true)
    (xkR : PySem.W.keepIn K (.ref xR) = true)
    (xeR : PySem.W.excIn K xR bmVE "ValueError.__new__" = true)
    (xsR : PySem.W.subIn K (.ref xR) (.type "BaseException") = some true)
    (xtR : PySem.W.typeIn K (.ref xR) = some (.type "type"))
    (xgR : PySem.W.findIn K (.ref xR) "__getattribute__" = some (some (.builtin "BaseException.__getattribute__")))
    (xhR : PySem.W.findIn K (.ref xR) "__getattr__" = some none)
    (xdR : PySem.W.hasDictIn K xR = true)
    (xcR : PySem.W.findIn K (.ref xR) "__class__" = some (some (.builtin "object.__class__")))
    (xoR : PySem.W.mroIn K xR (.type "object") = some true)
    (xmR : PySem.W.exmOne K (.ref xR) (.ref xL) = some true)
    (xqRT : PySem.W.kitOne K (.ref xR) (.ref xT) = some false)
    (xqRR : PySem.W.kitOne K (.ref xR) (.ref xR) = some true)
    (xqRV : PySem.W.kitOne K (.ref xR) (.type "ValueError") = some true)
    (xsp : PySem.W.specialIn K (.builtin "object.__class__") "__get__" = some (some (.builtin "getset_descriptor.__get__"))) (xtk : PySem.W.takesIn K (.builtin "object.__class__") = some true) (zV : PySem.W.nsIn K mainGlobals "ValueError" = some none) (own : LamX.OwnTab K fa h) :
    LamX.LawAtS l w K L2.CX0 8 63 "script" mg fa h := by
  have e := hfa.symm.trans (PySem.W.mg_of X G aL)
  cases e
  have blt : ∀ x ∈ bltNames, mg x = none := by
    unfold bltNames
    simp only [List.mem_cons, List.not_mem_nil, or_false, forall_eq_or_imp, forall_eq]
    exact ⟨PySem.W.mg_none_of X G z_len, PySem.W.mg_none_of X G z_int, PySem.W.mg_none_of X G z_str, PySem.W.mg_none_of X G z_tuple, PySem.W.mg_none_of X G z_list, PySem.W.mg_none_of X G z_sum, PySem.W.mg_none_of X G z_max, PySem.W.mg_none_of X G z_min, PySem.W.mg_none_of X G z_abs, PySem.W.mg_none_of X G z_all, PySem.W.mg_none_of X G z_sorted, PySem.W.mg_none_of X G z_isinstance, PySem.W.mg_none_of X G z_range, PySem.W.mg_none_of X G z_enumerate, PySem.W.mg_none_of X G z_zip, PySem.W.mg_none_of X G z_bool, PySem.W.mg_none_of X G z_set⟩
  have glb : ∀ x d, pg.glb.lookup x = some d → ∃ v u, mg x = some u ∧ RelV v u ∧ ∀ O H, Rp K O H d v := by
    intro x d hx
    have hm := lookup_mem hx
    unfold pg at hm
    simp only [List.mem_cons, List.not_mem_nil, or_false, Prod.mk.injEq] at hm
    rcases hm with ⟨rfl, rfl⟩
    · exact ⟨.str _, _, PySem.W.mg_of X G e1, ⟨_, rfl⟩, fun _ _ => by rw [Rp]⟩
  have dct : ∀ x kvs, pg.dct.lookup x = some kvs → DctOk K w mg x kvs := by
    intro x kvs hx
    have hm := lookup_mem hx
    unfold pg at hm
    exact nomatch hm
  have rps : ∀ x y, (x, y) ∈ pg.rps → RpsOk pg mg x y := by
    intro x y hm
    unfold pg at hm
    exact nomatch hm
  have ent : ∀ f fn, pg.fns.lookup f = some fn → Ent K mg pg f fn := by
    intro x fn hx
    have hm := lookup_mem hx
    unfold pg at hm
    simp only [List.mem_cons, List.not_mem_nil, or_false, Prod.mk.injEq] at hm
    rcases hm with ⟨rfl, rfl⟩ | ⟨rfl, rfl⟩ | ⟨rfl, rfl⟩ | ⟨rfl, rfl⟩ | ⟨rfl, rfl⟩ | ⟨rfl, rfl⟩ | ⟨rfl, rfl⟩ | ⟨rfl, rfl⟩ | ⟨rfl, rfl⟩
    · exact ent_mk (F := fun_mk (st := topS 6) l1 c1 k1) (PySem.W.mg_of X G a1) sc_times_for ((fun_mk (st := topS 6) l1 c1 k1).binds (ps := ["row", "slip"]) fun _ _ _ _ _ _ us hl => match us, hl with | [_, _], _ => rfl) rfl rfl ck_times_for
    · exact ent_mk (F := fun_mk (st := topS 7) l2 c2 k2) (PySem.W.mg_of X G a2) sc_letter_of ((fun_mk (st := topS 7) l2 c2 k2).binds (ps := ["times", "time", "slip"]) fun _ _ _ _ _ _ us hl => match us, hl with | [_, _, _], _ => rfl) rfl rfl ck_letter_of
    · exact ent_mk (F := fun_mk (st := topS 8) l3 c3 k3) (PySem.W.mg_of X G a3) sc_learnt ((fun_mk (st := topS 8) l3 c3 k3).binds (ps := ["row", "slip"]) fun _ _ _ _ _ _ us hl => match us, hl with | [_, _], _ => rfl) rfl rfl ck_learnt
    · exact ent_mk (F := fun_mk (st := topS 9) l4 c4 k4) (PySem.W.mg_of X G a4) sc_unlearnt ((fun_mk (st := topS 9) l4 c4 k4).binds (ps := ["times", "letters"]) fun _ _ _ _ _ _ us hl => match us, hl with | [_, _], _ => rfl) rfl rfl ck_unlearnt
    · exact ent_mk (F := fun_mk (st := topS 11) l5 c5 k5) (PySem.W.mg_of X G a5) sc__law_cell_at ((fun_mk (st := topS 11) l5 c5 k5).binds (ps := ["script", "k"]) fun _ _ _ _ _ _ us hl => match us, hl with | [_, _], _ => rfl) rfl rfl ck__law_cell_at
    · exact ent_mk (F := fun_mk (st := topS 12) l6 c6 k6) (PySem.W.mg_of X G a6) sc__law_mixed ((fun_mk (st := topS 12) l6 c6 k6).binds (ps := ["script", "k"]) fun _ _ _ _ _ _ us hl => match us, hl with | [_, _], _ => rfl) rfl rfl ck__law_mixed
    · exact ent_mk (F := fun_mk (st := topS 13) l7 c7 k7) (PySem.W.mg_of X G a7) sc__law_drawn ((fun_mk (st := topS 13) l7 c7 k7).binds (ps := ["number", "k"]) fun _ _ _ _ _ _ us hl => match us, hl with | [_, _], _ => rfl) rfl rfl ck__law_drawn
    · exact ent_mk (F := fun_mk (st := topS 15) l8 c8 k8) (PySem.W.mg_of X G a8) sc__law_row ((fun_mk (st := topS 15) l8 c8 k8).binds (ps := ["number", "most", "span"]) fun _ _ _ _ _ _ us hl => match us, hl with | [_, _, _], _ => rfl) rfl rfl ck__law_row
    · exact ent_mk (F := fun_mk (st := topS 16) l9 c9 k9) (PySem.W.mg_of X G a9) sc__law_learnt ((fun_mk (st := topS 16) l9 c9 k9).binds (ps := ["row", "slip"]) fun _ _ _ _ _ _ us hl => match us, hl with | [_, _], _ => rfl) rfl rfl ck__law_learnt
  have cs : ∀ x ∈ (["NoText", "NoRoom"] : List Str), ClsOk K mg x := by
    intro x hx
    simp only [List.mem_cons, List.not_mem_nil, or_false] at hx
    rcases hx with rfl | rfl
    · exact ⟨xT, PySem.W.mg_of X G xaT, xkT, xeT, xsT, xtT⟩
    · exact ⟨xR, PySem.W.mg_of X G xaR, xkR, xeR, xsR, xtR⟩
  have kt : ∃ CL CT CR, ToldK K mg CL CT CR := ⟨xL, xT, xR, PySem.W.mg_of X G xaL, PySem.W.mg_of X G xaT, PySem.W.mg_of X G xaR, PySem.W.mg_none_of X G zV, PySem.W.mg_none_of X G z_isinstance, ⟨xgT, xhT, xsT, xdT, xcT, xsp, xtk, xoT⟩, ⟨xgR, xhR, xsR, xdR, xcR, xsp, xtk, xoR⟩, xmT, xmR, xqTT, xqTR, xqRT, xqRR, xqTV, xqRV⟩
  have ft : ToldF K mg := ⟨gT, _, _, _, _, _, _, _, _, _, _, _, _, _, PySem.W.mg_of X G aT, kT, lT, cT, (fun_mk (st := topS 14) lT cT kT).binds (ps := ["deed"]) fun _ _ _ _ _ _ us hl => match us, hl with | [_], _ => rfl, sc_told, ck_told, by decide +kernel⟩
  have entX : ∀ f ∈ (["learnt", "unlearnt", "times_for"] : List Str), EntX K mg pg ["learnt", "unlearnt", "times_for"] ["NoText", "NoRoom"] f := by
    intro x hx
    simp only [List.mem_cons, List.not_mem_nil, or_false] at hx
    rcases hx with rfl | rfl | rfl
    · exact ⟨f_learnt, topS 8, _, _, ["row", "slip"], _, _, rfl, PySem.W.mg_of X G a3, fun_mk (st := topS 8) l3 c3 k3, sc_learnt, (fun_mk (st := topS 8) l3 c3 k3).binds (ps := ["row", "slip"]) fun _ _ _ _ _ _ us hl => match us, hl with | [_, _], _ => rfl, rfl, rfl, chk_get ck_learnt, ckx_learnt⟩
    · exact ⟨f_unlearnt, topS 9, _, _, ["times", "letters"], _, _, rfl, PySem.W.mg_of X G a4, fun_mk (st := topS 9) l4 c4 k4, sc_unlearnt, (fun_mk (st := topS 9) l4 c4 k4).binds (ps := ["times", "letters"]) fun _ _ _ _ _ _ us hl => match us, hl with | [_, _], _ => rfl, rfl, rfl, chk_get ck_unlearnt, ckx_unlearnt⟩
    · exact ⟨f_times_for, topS 6, _, _, ["row", "slip"], _, _, rfl, PySem.W.mg_of X G a1, fun_mk (st := topS 6) l1 c1 k1, sc_times_for, (fun_mk (st := topS 6) l1 c1 k1).binds (ps := ["row", "slip"]) fun _ _ _ _ _ _ us hl => match us, hl with | [_, _], _ => rfl, rfl, rfl, chk_get ck_times_for, ckx_times_for⟩
  cases cq
  refine ⟨PySem.W.fnOf "law" "law" (defArgs (topS 17)) (defBody (topS 17)) (defScope (topS 17)) .none kvL dcL pmL anL (.ref cc) ctL, [(cc, PP)], spT K pg 5 f_law [(PP, lamQ (defScope (topS 17)))], fun x hx => ?_, fun x hx => ?_, fun x hx => ?_, fun s v => .of_eq rfl, fun H a ns hl _ hH hS => ⟨a, ns, rfl, hS, tabs_one (hH _ List.mem_cons_self), law_true ns hl, fun _ => rfl⟩, fun base _ _ TB => law_okT nl lL cL sc_law rfl ck_law glb blt dct rps kt ft (TB _ List.mem_cons_self) (all_ok ent glb blt dct rps 5) (all_okX ent entX glb blt dct rps cs 5)⟩
  · rcases List.mem_cons.mp hx with z | z
    · rw [z]
      exact own cc PP _ _ _ _ _ _ lL rfl rfl lcc cvP
    · exact nomatch z
  · rcases List.mem_cons.mp hx with z | z
    · rw [z]
      exact nP
    · exact nomatch z
  · rcases List.mem_cons.mp hx with z | z
    · rw [z]
      exact codeHd_in X lcc chd
    · exact nomatch z
end K40
open PySem PySem.W PyProof.Rows
set_option maxHeartbeats 0 in
theorem PySem.Challenge.cw_lampcodes_k40_learnt_holds : PySem.Challenge.rw_lampcodes_k40_learnt.Holds := by
  w_on; o_law; k_head; (case hw => w_witness2)
  k_fill
  refine LamX.walk_ofOwn (l := PySem.Challenge.rw_lampcodes_k40_learnt) (n := 63) (k := 8) (x := "script") (CX := fun _ => L2.CX0) rfl (by decide) rfl ⟨rfl, by decide, by decide⟩ (by first | rfl | decide +kernel) (fun w h Y => by first | exact PySem.W.kIn_of Y | exact PySem.W.km_in_of Y) ?F (fun _ _ _ _ _ h => h)
  case F =>
    intro w mg fa h Y KX G hmg own
    refine' K40.all_mk KX G hmg ?a1 ?l1 ?c1 ?k1 ?a2 ?l2 ?c2 ?k2 ?a3 ?l3 ?c3 ?k3 ?a4 ?l4 ?c4 ?k4 ?a5 ?l5 ?c5 ?k5 ?a6 ?l6 ?c6 ?k6 ?a7 ?l7 ?c7 ?k7 ?a8 ?l8 ?c8 ?k8 ?a9 ?l9 ?c9 ?k9 ?z_len ?z_int ?z_str ?z_tuple ?z_list ?z_sum ?z_max ?z_min ?z_abs ?z_all ?z_sorted ?z_isinstance ?z_range ?z_enumerate ?z_zip ?z_bool ?z_set ?e1 ?nl ?aL ?lL ?cL ?kL ?aT ?lT ?cT ?kT ?cq ?lcc ?cvP ?chd ?nP ?xaL ?xaT ?xaR ?xkT ?xeT ?xsT ?xtT ?xgT ?xhT ?xdT ?xcT ?xoT ?xmT ?xqTT ?xqTR ?xqTV ?xkR ?xeR ?xsR ?xtR ?xgR ?xhR ?xdR ?xcR ?xoR ?xmR ?xqRT ?xqRR ?xqRV ?xsp ?xtk ?zV own
    (case a1 => k_is); (case l1 => k_is); (case c1 => k_is); (case k1 => k_is); (case a2 => k_is); (case l2 => k_is); (case c2 => k_is); (case k2 => k_is); (case a3 => k_is); (case l3 => k_is); (case c3 => k_is); (case k3 => k_is); (case a4 => k_is); (case l4 => k_is); (case c4 => k_is); (case k4 => k_is); (case a5 => k_is); (case l5 => k_is); (case c5 => k_is); (case k5 => k_is); (case a6 => k_is); (case l6 => k_is); (case c6 => k_is); (case k6 => k_is); (case a7 => k_is); (case l7 => k_is); (case c7 => k_is); (case k7 => k_is); (case a8 => k_is); (case l8 => k_is); (case c8 => k_is); (case k8 => k_is); (case a9 => k_is); (case l9 => k_is); (case c9 => k_is); (case k9 => k_is); (case z_len => k_is); (case z_int => k_is); (case z_str => k_is); (case z_tuple => k_is); (case z_list => k_is); (case z_sum => k_is); (case z_max => k_is); (case z_min => k_is); (case z_abs => k_is); (case z_all => k_is); (case z_sorted => k_is); (case z_isinstance => k_is); (case z_range => k_is); (case z_enumerate => k_is); (case z_zip => k_is); (case z_bool => k_is); (case z_set => k_is); (case e1 => k_is); (case aL => k_is); (case lL => k_is); (case cL => k_is); (case kL => k_is); (case aT => k_is); (case lT => k_is); (case cT => k_is); (case kT => k_is); (case xaL => k_is); (case xaT => k_is); (case xaR => k_is); (case zV => k_is)
    case cq => first | rfl | decide | k_is
    case lcc => k_is
    case cvP => first | rfl | decide | k_is
    case chd => first | rfl | decide | k_is
    case nP => first | rfl | decide | k_is
    case xkT => first | rfl | decide | k_is
    case xeT => k_exc
    case xsT => first | rfl | decide | k_is
    case xtT => first | rfl | decide | k_is
    case xgT => first | rfl | decide | k_is
    case xhT => first | rfl | decide | k_is
    case xdT => first | rfl | decide | k_is
    case xcT => first | rfl | decide | k_is
    case xoT => first | rfl | decide | k_is
    case xmT => first | rfl | decide | k_is
    case xqTT => first | rfl | decide | k_is
    case xqTR => first | rfl | decide | k_is
    case xqTV => first | rfl | decide | k_is
    case xkR => first | rfl | decide | k_is
    case xeR => k_exc
    case xsR => first | rfl | decide | k_is
    case xtR => first | rfl | decide | k_is
    case xgR => first | rfl | decide | k_is
    case xhR => first | rfl | decide | k_is
    case xdR => first | rfl | decide | k_is
    case xcR => first | rfl | decide | k_is
    case xoR => first | rfl | decide | k_is
    case xmR => first | rfl | decide | k_is
    case xqRT => first | rfl | decide | k_is
    case xqRR => first | rfl | decide | k_is
    case xqRV => first | rfl | decide | k_is
    case xsp => first | rfl | decide | k_is
    case xtk => first | rfl | decide | k_is
    case nl => exact Eq.refl true
