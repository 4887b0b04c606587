import PyProof.Rows.All
import Wide.All
import OpenK.AllK
import Wide.FinOn
import HandS.ForMost
import HandS.Wide
import HandS.TupAny
import HandS.IsInst
import HandS.Conv
import HandS.Deep
import HandS.SortInts
import HandS.SortKw
import HandS.SetFor
import KE.DataMinMax
import KE.SortData
import HandS.TupMul
import HandS.Style
import HandS.Strs
import PyProof.SumWalkG
import HandS.Small
import HandS.Codes
import HandS.Defaults
import HandS.Head0
import HandS.Head1
import HandS.Head2
import HandS.HeadEnd
import HandS.HeadHook1
import HandS.HeadHook2
import HandS.HeadHook4
import PySem.Challenge.RW_boatsout_k60_cranes_and_their_reach
set_option Elab.async false
set_option linter.all false
set_option maxRecDepth 100000
set_option maxHeartbeats 4000000
/-! Bo1: an own small language of values, and what it asks (a weakest precondition). -/
namespace Bo
open PySem L2

/-- an own changeable object -/
inductive Ob where
  | lst (xs : List PyData)
  | dic (kvs : List (Key × PyData))
/-- what a slot holds: nothing known, a value, an own object, a borrowed one -/
inductive En where
  | no | val (d : PyData) | own (o : Ob) | bor (o : Ob)
abbrev Ev := List En
/-- what an expression hands back: a value, the own object of a slot, a new object -/
inductive Rs where
  | val (d : PyData) | slot (i : Nat) | obj (o : Ob)
/-- an operand as it stands -/
inductive Ar where
  | d (d : PyData) | o (o : Ob)
def Ev.get (ρ : Ev) (i : Nat) : En := ρ.getD i .no
def res (ρ : Ev) : Rs → Ar
  | .val d => .d d
  | .obj o => .o o
  | .slot i => match ρ.get i with
    | .own o => .o o
    | .bor o => .o o
    | .val d => .d d
    | .no => .d .none
/-- an operand becomes a value for good -/
def frz (ρ : Ev) (r : Rs) (K : PyData → Ev → Prop) : Prop := match r with
  | .val d => K d ρ
  | .obj (.lst xs) => K (.list xs) ρ
  | .obj (.dic _) => False
  | .slot i => match ρ.get i with
    | .own (.lst xs) => K (.list xs) (ρ.set i (.val (.list xs)))
    | .val d => K d ρ
    | _ => False
def asB (r : Rs) (k : Bool → Prop) : Prop := match r with
  | .val (.bool b) => k b
  | _ => False

inductive O2 where | add | sub | mul | fdiv | mod | pow
inductive C2 where | eq | ne | lt | le | gt | ge | inn | nin
/-- built-in functions -/
inductive BF where
  | len | int | abs | sum | max | min | max2 | min2 | sorted | sortedRev | tuple | list | listRng1 | listRng2 | any | all | isB | isI | isS | isT | sortedSet | lenSet | dict
/-- built-in methods that change nothing -/
inductive BM where | indexT | indexL | countT | countL | bitLength | getD
/-- built-in methods that change their object -/
inductive MM where | append | pop | popAt | reverse | remove
inductive Tg where | one (i : Nat) | tup (is : List Nat)
inductive Ik where | rng1 | rng2 | seq | own (i : Nat) | keys
mutual
inductive IE where
  | v (i : Nat)
  | g (x : Str) (d : PyData)
  | k (d : PyData)
  | op (o : O2) (a b : IE)
  | neg (a : IE)
  | cmp (c : C2) (a b : IE)
  | isN (ng : Bool) (a : IE)
  | ch (c c' : C2) (a b d : IE)
  | nt (a : IE)
  | bo (isAnd : Bool) (es : IEs)
  | ife (c a b : IE)
  | tup (es : IEs)
  | lst (es : IEs)
  | dnew
  | ix (a i : IE)
  | sl (a : IE) (lo hi : IEs)
  | call (f : Nat) (es : IEs)
  | bf (f : BF) (es : IEs)
  | bm (m : BM) (a : IE) (es : IEs)
  | mut (m : MM) (i : Nat) (es : IEs)
  | comp (own : List (Str × Nat)) (tg : Tg) (ik : Ik) (its : IEs) (ifs : IEs) (elt : IE)
inductive IEs where
  | nil
  | cons (e : IE) (es : IEs)
  | bor (i : Nat) (es : IEs)
end
mutual
inductive IS where
  | set (i : Nat) (e : IE)
  | setT (is : List Nat) (e : IE)
  | par (is : List Nat) (es : IEs)
  | setI (i : Nat) (ix e : IE)
  | aug (o : O2) (i : Nat) (e : IE)
  | augI (o : O2) (i : Nat) (ix e : IE)
  | ex (e : IE)
  | ret (e : IE)
  | retN
  | ifs (c : IE) (a b : ISs)
  | fo (tg : Tg) (ik : Ik) (its : IEs) (body : ISs)
  | wh (c : IE) (body : ISs)
  | brk
  | pas
inductive ISs where
  | nil
  | cons (s : IS) (ss : ISs)
end

/-! ### operations on operands -/
def MulOk (i j : Int) : Prop := CMul i j ∨ CMulW i j
/-- the items of a list or tuple -/
def Ar.seq : Ar → Option (List PyData)
  | .d (.list xs) => some xs
  | .d (.tuple xs) => some xs
  | .o (.lst xs) => some xs
  | _ => none
def Ar.lst : Ar → Option (List PyData)
  | .d (.list xs) => some xs
  | .o (.lst xs) => some xs
  | _ => none
/-- as data -/
def Ar.dat : Ar → Option PyData
  | .d x => some x
  | .o (.lst xs) => some (.list xs)
  | .o (.dic _) => none
def toI : PyData → Option Int
  | .int i => some i
  | _ => none
def toB : PyData → Option Bool
  | .bool b => some b
  | _ => none
def toK : PyData → Option Key
  | .int i => some (.inl i)
  | .str x => some (.inr x)
  | _ => none
def allI : List PyData → Option (List Int)
  | [] => some []
  | .int i :: r => (allI r).map (i :: ·)
  | _ => none
def allB : List PyData → Option (List Bool)
  | [] => some []
  | .bool i :: r => (allB r).map (i :: ·)
  | _ => none
/-- some x: k x; none: never -/
def opt {α : Type} (o : Option α) (k : α → Prop) : Prop := match o with
  | some x => k x
  | none => False
def flat : PyData → Bool
  | .none => true
  | .bool _ => true
  | .int _ => true
  | .str _ => true
  | _ => false

def semO : O2 → Ar → Ar → (Rs → Prop) → Prop
  | .add, .d (.int i), .d (.int j), k => k (.val (.int (i + j)))
  | .add, .d (.tuple xs), .d (.tuple ys), k => xs.length + ys.length ≤ 16777216 ∧ k (.val (.tuple (xs ++ ys)))
  | .add, a, b, k => opt a.lst fun xs => opt b.lst fun ys => xs.length + ys.length ≤ 16777216 ∧ k (.obj (.lst (xs ++ ys)))
  | .sub, .d (.int i), .d (.int j), k => k (.val (.int (i - j)))
  | .mul, .d (.int i), .d (.int j), k => MulOk i j ∧ k (.val (.int (i * j)))
  | .mul, .d (.tuple xs), .d (.int j), k => (xs ≠ [] ∧ 2 ≤ j ∧ j ≤ 1000 ∧ xs.length ≤ 1000) ∧ k (.val (.tuple (List.replicate j.toNat xs).flatten))
  | .mul, .o (.lst xs), .d (.int j), k => (-(2 ^ 63) ≤ j ∧ j < 2 ^ 63 ∧ xs.length * j.toNat ≤ 16777216) ∧ k (.obj (.lst (List.replicate j.toNat xs).flatten))
  | .fdiv, .d (.int i), .d (.int j), k => (0 < j ∧ j.natAbs.log2 < 9000) ∧ k (.val (.int (i / j)))
  | .mod, .d (.int i), .d (.int j), k => 0 < j ∧ k (.val (.int (i % j)))
  | .pow, .d (.int i), .d (.int j), k => (0 ≤ j ∧ j ≤ 1000000 ∧ i.natAbs < 2 ^ 64) ∧ k (.val (.int (i ^ j.toNat)))
  | _, _, _, _ => False
def semNeg : Ar → (Rs → Prop) → Prop
  | .d (.int i), k => k (.val (.int (-i)))
  | _, _ => False
def vB (b : Bool) : Rs := .val (.bool b)
def semEq (a b : Ar) (k : Bool → Prop) : Prop := opt a.dat fun d => opt b.dat fun e => (SeqAt.shaped d = true ∧ SeqAt.shaped e = true) ∧ k (PyData.eqv d e)
/-- a in b -/
def semIn (a b : Ar) (k : Bool → Prop) : Prop := match b with
  | .o (.dic kvs) => opt a.dat fun d => opt (toK d) fun key => k (kvs.any fun kv => decide (kv.1 = key))
  | _ => opt a.dat fun d => opt b.seq fun xs => ((flat d = true ∧ xs.all flat = true) ∨ (b.lst.isSome = true ∧ SeqAt.shaped d = true ∧ SeqAt.shaped (.list xs) = true)) ∧ k (xs.any fun z => PyData.eqv z d)
/-- order: ints, texts -/
def semLt (f : Int → Int → Bool) (a b : Ar) (k : Bool → Prop) : Prop := match a, b with
  | .d (.int i), .d (.int j) => k (f i j)
  | _, _ => False
def semC : C2 → Ar → Ar → (Bool → Prop) → Prop
  | .eq, a, b, k => semEq a b k
  | .ne, a, b, k => semEq a b fun c => k (!c)
  | .lt, a, b, k => semLt (fun i j => decide (i < j)) a b k
  | .le, a, b, k => semLt (fun i j => decide (i ≤ j)) a b k
  | .gt, a, b, k => semLt (fun i j => decide (j < i)) a b k
  | .ge, a, b, k => semLt (fun i j => decide (j ≤ i)) a b k
  | .inn, a, b, k => semIn a b k
  | .nin, a, b, k => semIn a b fun c => k (!c)
/-- is None -/
def noneB : PyData → Bool
  | .none => true
  | _ => false
def look (kvs : List (Key × PyData)) (key : Key) : Option PyData := (kvs.find? fun kv => decide (kv.1 = key)).map (·.2)
def put (kvs : List (Key × PyData)) (key : Key) (d : PyData) : List (Key × PyData) :=
  if kvs.any (fun kv => decide (kv.1 = key)) then kvs.map fun kv => if kv.1 = key then (kv.1, d) else kv else kvs ++ [(key, d)]
def semIx (a i : Ar) (k : PyData → Prop) : Prop := match a with
  | .o (.dic kvs) => opt i.dat fun d => opt (toK d) fun key => opt (look kvs key) k
  | _ => match i with
    | .d (.int j) => opt a.seq fun xs => opt (atI xs j) k
    | _ => False
def cutL {α : Type} (xs : List α) (lo hi : Option Int) : List α := (xs.drop (HT.sIx xs.length 0 lo)).take (HT.sIx xs.length xs.length hi - HT.sIx xs.length 0 lo)
def semSl (a : Ar) (lo hi : Option Int) (k : Rs → Prop) : Prop := match a with
  | .d (.tuple xs) => k (.val (.tuple (cutL xs lo hi)))
  | _ => opt a.lst fun xs => k (.obj (.lst (cutL xs lo hi)))
def maxI : List Int → Int
  | [] => 0
  | x :: r => r.foldl (fun m y => if y > m then y else m) x
def minI : List Int → Int
  | [] => 0
  | x :: r => r.foldl (fun m y => if y < m then y else m) x
def insI (x : Int) : List Int → List Int
  | [] => [x]
  | y :: r => if x ≤ y then x :: y :: r else y :: insI x r
def sortI : List Int → List Int
  | [] => []
  | x :: r => insI x (sortI r)
/-- once each, ascending -/
def insU (x : Int) : List Int → List Int
  | [] => [x]
  | y :: r => if x < y then x :: y :: r else if x = y then y :: r else y :: insU x r
def setU : List Int → List Int
  | [] => []
  | x :: r => insU x (setU r)
/-- can be compared, one with another -/
def CmpAll (xs : List PyData) : Prop := W.AlikeAll xs ∧ SeqAt.shaped (.list xs) = true
def srtD (rev : Bool) (xs : List PyData) : List PyData := xs.mergeSort (W.dataLe rev id)
def SrtOk (xs : List PyData) : Prop := (W.AllAlike xs ∧ W.Sortable xs) ∧ ∀ d ∈ xs, d.depth ≤ 60
def rngL (a b : Int) : List PyData := (List.range (b - a).toNat).map fun i => .int (a + (i : Nat))
def Small (i : Int) : Prop := -(2 ^ 62) ≤ i ∧ i < 2 ^ 62
def isBd : PyData → Bool
  | .bool _ => true
  | _ => false
def isId : PyData → Bool
  | .bool _ => true
  | .int _ => true
  | _ => false
def isSd : PyData → Bool
  | .str _ => true
  | _ => false
def isTd : PyData → Bool
  | .tuple _ => true
  | _ => false
def semF : BF → List Ar → (Rs → Prop) → Prop
  | .len, [.d (.str z)], k => z.length ≤ 16777216 ∧ k (.val (.int z.length))
  | .len, [.o (.dic kvs)], k => k (.val (.int kvs.length))
  | .len, [a], k => opt a.seq fun xs => k (.val (.int xs.length))
  | .int, [.d (.int i)], k => k (.val (.int i))
  | .int, [.d (.bool b)], k => k (.val (.int (if b then 1 else 0)))
  | .abs, [.d (.int i)], k => k (.val (.int (if i < 0 then -i else i)))
  | .sum, [a], k => opt a.seq fun xs => opt (allI xs) fun ns => k (.val (.int ns.sum))
  | .max, [a], k => opt a.seq fun xs => match allI xs, xs with
    | some ns, _ => ns ≠ [] ∧ k (.val (.int (maxI ns)))
    | none, x :: r => CmpAll (x :: r) ∧ k (.val (W.maxD x r))
    | none, [] => False
  | .min, [a], k => opt a.seq fun xs => match allI xs, xs with
    | some ns, _ => ns ≠ [] ∧ k (.val (.int (minI ns)))
    | none, x :: r => CmpAll (x :: r) ∧ k (.val (W.minD x r))
    | none, [] => False
  | .max2, [.d (.int i), .d (.int j)], k => k (.val (.int (if j > i then j else i)))
  | .min2, [.d (.int i), .d (.int j)], k => k (.val (.int (if j < i then j else i)))
  | .sorted, [a], k => opt a.lst fun xs => match allI xs with
    | some ns => k (.obj (.lst ((sortI ns).map .int)))
    | none => SrtOk xs ∧ k (.obj (.lst (srtD false xs)))
  | .sortedSet, [a], k => opt a.lst fun xs => opt (allI xs) fun ns => ns.length < 64 ∧ k (.obj (.lst ((setU ns).map .int)))
  | .tuple, [a], k => opt a.seq fun xs => k (.val (.tuple xs))
  | .list, [a], k => opt a.seq fun xs => k (.obj (.lst xs))
  | .listRng1, [.d (.int j)], k => (Small j ∧ j ≤ 16777216) ∧ k (.obj (.lst (rngL 0 j)))
  | .listRng2, [.d (.int i), .d (.int j)], k => (Small i ∧ Small j ∧ j - i ≤ 16777216) ∧ k (.obj (.lst (rngL i j)))
  | .any, [a], k => opt a.lst fun xs => opt (allB xs) fun bs => k (vB (bs.any id))
  | .all, [a], k => opt a.lst fun xs => opt (allB xs) fun bs => k (vB (bs.all id))
  | .isB, [.d d], k => k (vB (isBd d))
  | .isI, [.d d], k => k (vB (isId d))
  | .isS, [.d d], k => k (vB (isSd d))
  | .isT, [.d d], k => k (vB (isTd d))
  | _, _, _ => False
/-- the first place of an equal one -/
def findD (xs : List PyData) (d : PyData) : Option Nat := xs.findIdx? fun z => PyData.eqv z d
def shpA (xs : List PyData) (d : PyData) : Prop := SeqAt.shaped (.list xs) = true ∧ SeqAt.shaped d = true
def semM : BM → Ar → List Ar → (Rs → Prop) → Prop
  | .getD, .o (.dic kvs), [.d key, .d d], k => opt (toK key) fun key => k (.val ((look kvs key).getD d))
  | .indexT, .d (.tuple xs), [.d d], k => shpA xs d ∧ opt (findD xs d) fun j => k (.val (.int j))
  | .indexL, a, [.d d], k => opt a.lst fun xs => shpA xs d ∧ opt (findD xs d) fun j => k (.val (.int j))
  | .countT, .d (.tuple xs), [.d d], k => shpA xs d ∧ k (.val (.int (xs.countP fun z => PyData.eqv z d : Nat)))
  | .countL, a, [.d d], k => opt a.lst fun xs => shpA xs d ∧ k (.val (.int (xs.countP fun z => PyData.eqv z d : Nat)))
  | _, _, _, _ => False
/-- a change: the object behind it, the value -/
def semMM : MM → Ob → List PyData → (Ob → PyData → Prop) → Prop
  | .append, .lst xs, [d], k => xs.length < 16777216 ∧ k (.lst (xs ++ [d])) .none
  | .pop, .lst xs, [], k => opt xs.getLast? fun d => k (.lst xs.dropLast) d
  | .popAt, .lst xs, [.int i], k => Small i ∧ opt (ixN xs.length i) fun j => opt xs[j]? fun d => k (.lst (xs.eraseIdx j)) d
  | .reverse, .lst xs, [], k => k (.lst xs.reverse) .none
  | _, _, _, _ => False
def semSetI : Ob → PyData → PyData → (Ob → Prop) → Prop
  | .lst xs, .int i, d, k => opt (ixN xs.length i) fun j => k (.lst (xs.set j d))
  | .dic kvs, key, d, k => opt (toK key) fun key => kvs.length < 16777216 ∧ k (.dic (put kvs key d))
  | _, _, _, _ => False

/-! ### slots -/
def setV (ρ : Ev) (i : Nat) (e : En) (k : Ev → Prop) : Prop := match ρ.get i with
  | .bor _ => False
  | _ => k (ρ.set i e)
def setVs : Ev → List Nat → List PyData → (Ev → Prop) → Prop
  | ρ, [], [], k => k ρ
  | ρ, i :: is, d :: ds, k => setV ρ i (.val d) fun ρ1 => setVs ρ1 is ds k
  | _, _, _, _ => False
def asgT (tg : Tg) (d : PyData) (ρ : Ev) (k : Ev → Prop) : Prop := match tg with
  | .one i => setV ρ i (.val d) k
  | .tup is => match d with
    | .tuple ds => setVs ρ is ds k
    | _ => False
/-- the object of a slot -/
def objAt (ρ : Ev) (i : Nat) (k : Ob → (Ob → En) → Prop) : Prop := match ρ.get i with
  | .own o => k o .own
  | .bor o => k o .bor
  | _ => False
/-- behind a block: its own names as they were -/
def back (ρ0 ρ : Ev) : List Nat → Ev
  | [] => ρ
  | v :: vs => (back ρ0 ρ vs).set v (ρ0.get v)
def wipeE (ρ : Ev) : List Nat → Ev
  | [] => ρ
  | v :: vs => (wipeE ρ vs).set v .no
def noObj (ρ : Ev) (vs : List Nat) : Prop := ∀ v ∈ vs, match ρ.get v with
  | .no => True
  | .val _ => True
  | _ => False
/-- a comprehension's turns over items -/
def wComp (vs : List Nat) (tg : Tg) (cond : Ev → (Bool → Ev → Prop) → Prop) (elt : Ev → (PyData → Ev → Prop) → Prop) : List PyData → Ev → (List PyData → Ev → Prop) → Prop
  | [], ρ, K => K [] ρ
  | d :: ds, ρ, K => asgT tg d ρ fun ρ1 => cond ρ1 fun b ρ2 =>
    if b = true then elt ρ2 fun x ρ3 => wComp vs tg cond elt ds (wipeE ρ3 vs) fun xs ρ4 => K (x :: xs) ρ4
    else wComp vs tg cond elt ds (wipeE ρ2 vs) K

/-- contracts: arguments (values, borrowed objects) to what is wanted of the result and the borrowed objects behind -/
abbrev Ct := List En → (Rs → List Ob → Prop) → Prop
/-- the arguments as they are handed: a value, a slot -/
inductive Ag where | d (d : PyData) | s (i : Nat)
def agEn (ρ : Ev) : Ag → En
  | .d d => .val d
  | .s i => match ρ.get i with
    | .own o => .bor o
    | .bor o => .bor o
    | _ => .no
def agSlots : List Ag → List Nat
  | [] => []
  | .d _ :: r => agSlots r
  | .s i :: r => i :: agSlots r
def putOb (ρ : Ev) (i : Nat) (o : Ob) : Ev := match ρ.get i with
  | .own _ => ρ.set i (.own o)
  | .bor _ => ρ.set i (.bor o)
  | _ => ρ
def putObs : Ev → List Nat → List Ob → Ev
  | ρ, i :: is, o :: os => putObs (putOb ρ i o) is os
  | ρ, _, _ => ρ
def isObj (ρ : Ev) (i : Nat) : Prop := match ρ.get i with
  | .own _ => True
  | .bor _ => True
  | _ => False

def isLst (ρ : Ev) (i : Nat) : Prop := match ρ.get i with
  | .own (.lst _) => True
  | .bor (.lst _) => True
  | _ => False

section
variable (Γ : Nat → Ct)
mutual
def wE : IE → Ev → (Rs → Ev → Prop) → Prop
  | .v i, ρ, K => match ρ.get i with
    | .val d => K (.val d) ρ
    | .own _ => K (.slot i) ρ
    | .bor _ => K (.slot i) ρ
    | .no => False
  | .g _ d, ρ, K => K (.val d) ρ
  | .k d, ρ, K => K (.val d) ρ
  | .op o a b, ρ, K => wE a ρ fun x ρ1 => wE b ρ1 fun y ρ2 => semO o (res ρ2 x) (res ρ2 y) fun r => K r ρ2
  | .neg a, ρ, K => wE a ρ fun x ρ1 => semNeg (res ρ1 x) fun r => K r ρ1
  | .cmp c a b, ρ, K => wE a ρ fun x ρ1 => wE b ρ1 fun y ρ2 => semC c (res ρ2 x) (res ρ2 y) fun b => K (vB b) ρ2
  | .isN ng a, ρ, K => wE a ρ fun x ρ1 => match res ρ1 x with
    | .d d => K (vB (if ng then !noneB d else noneB d)) ρ1
    | .o _ => K (vB ng) ρ1
  | .ch c c' a b d, ρ, K => wE a ρ fun x ρ1 => wE b ρ1 fun y ρ2 => semC c (res ρ2 x) (res ρ2 y) fun t =>
    if t = true then wE d ρ2 fun z ρ3 => semC c' (res ρ3 y) (res ρ3 z) fun u => K (vB u) ρ3 else K (vB false) ρ2
  | .nt a, ρ, K => wE a ρ fun x ρ1 => asB x fun b => K (vB (!b)) ρ1
  | .bo isAnd es, ρ, K => wBo isAnd es ρ fun b ρ1 => K (vB b) ρ1
  | .ife c a b, ρ, K => wE c ρ fun x ρ1 => asB x fun t => if t = true then wE a ρ1 K else wE b ρ1 K
  | .tup es, ρ, K => wFs es ρ fun ds ρ1 => ds.length ≤ 16777216 ∧ K (.val (.tuple ds)) ρ1
  | .lst es, ρ, K => wFs es ρ fun ds ρ1 => ds.length ≤ 16777216 ∧ K (.obj (.lst ds)) ρ1
  | .dnew, ρ, K => K (.obj (.dic [])) ρ
  | .ix a i, ρ, K => wE a ρ fun x ρ1 => wE i ρ1 fun y ρ2 => semIx (res ρ2 x) (res ρ2 y) fun d => K (.val d) ρ2
  | .sl a lo hi, ρ, K => wE a ρ fun x ρ1 => wPart lo ρ1 fun l ρ2 => wPart hi ρ2 fun h ρ3 => semSl (res ρ3 x) l h fun r => K r ρ3
  | .call f es, ρ, K => wAs es ρ fun as ρ1 => ((agSlots as).Nodup ∧ ∀ i ∈ agSlots as, isObj ρ1 i) ∧ Γ f (as.map (agEn ρ1)) fun r os => os.length = (agSlots as).length ∧ K r (putObs ρ1 (agSlots as) os)
  | .bf f es, ρ, K => wOs es ρ fun rs ρ1 => semF f (rs.map (res ρ1)) fun r => K r ρ1
  | .bm m a es, ρ, K => wE a ρ fun x ρ1 => wOs es ρ1 fun rs ρ2 => semM m (res ρ2 x) (rs.map (res ρ2)) fun r => K r ρ2
  | .mut m i es, ρ, K => isLst ρ i ∧ wFs es ρ fun ds ρ1 => objAt ρ1 i fun o c => semMM m o ds fun o' d => K (.val d) (ρ1.set i (c o'))
  | .comp own tg ik its ifs elt, ρ, K => wIt ik its ρ fun ds ρ1 => noObj ρ1 (own.map (·.2)) ∧
    wComp (own.map (·.2)) tg (wCond ifs) (fun ρ k => wE elt ρ fun r ρ' => frz ρ' r k) ds (wipeE ρ1 (own.map (·.2))) fun xs ρ2 => K (.obj (.lst xs)) (back ρ1 ρ2 (own.map (·.2)))
/-- values, frozen -/
def wFs : IEs → Ev → (List PyData → Ev → Prop) → Prop
  | .nil, ρ, K => K [] ρ
  | .cons e es, ρ, K => wE e ρ fun r ρ1 => frz ρ1 r fun d ρ2 => wFs es ρ2 fun ds ρ3 => K (d :: ds) ρ3
  | .bor _ _, _, _ => False
/-- operands -/
def wOs : IEs → Ev → (List Rs → Ev → Prop) → Prop
  | .nil, ρ, K => K [] ρ
  | .cons e es, ρ, K => wE e ρ fun r ρ1 => wOs es ρ1 fun rs ρ2 => K (r :: rs) ρ2
  | .bor _ _, _, _ => False
/-- arguments of an own def -/
def wAs : IEs → Ev → (List Ag → Ev → Prop) → Prop
  | .nil, ρ, K => K [] ρ
  | .cons e es, ρ, K => wE e ρ fun r ρ1 => frz ρ1 r fun d ρ2 => wAs es ρ2 fun ds ρ3 => K (.d d :: ds) ρ3
  | .bor i es, ρ, K => isObj ρ i ∧ wAs es ρ fun ds ρ3 => K (.s i :: ds) ρ3
/-- and, or -/
def wBo (isAnd : Bool) : IEs → Ev → (Bool → Ev → Prop) → Prop
  | .nil, _, _ => False
  | .cons e .nil, ρ, K => wE e ρ fun r ρ1 => asB r fun b => K b ρ1
  | .cons e es, ρ, K => wE e ρ fun r ρ1 => asB r fun b => if b = isAnd then wBo isAnd es ρ1 K else K b ρ1
  | .bor _ _, _, _ => False
def wPart : IEs → Ev → (Option Int → Ev → Prop) → Prop
  | .nil, ρ, K => K none ρ
  | .cons e .nil, ρ, K => wE e ρ fun r ρ1 => match r with
    | .val (.int i) => K (some i) ρ1
    | _ => False
  | _, _, _ => False
def wCond : IEs → Ev → (Bool → Ev → Prop) → Prop
  | .nil, ρ, K => K true ρ
  | .cons e .nil, ρ, K => wE e ρ fun r ρ1 => asB r fun b => K b ρ1
  | _, _, _ => False
/-- the items of what is walked -/
def wIt : Ik → IEs → Ev → (List PyData → Ev → Prop) → Prop
  | .rng1, .cons e .nil, ρ, K => wE e ρ fun r ρ1 => match r with
    | .val (.int j) => (Small j ∧ j ≤ 16777216) ∧ K (rngL 0 j) ρ1
    | _ => False
  | .rng2, .cons e (.cons e' .nil), ρ, K => wE e ρ fun r ρ1 => wE e' ρ1 fun r' ρ2 => match r, r' with
    | .val (.int i), .val (.int j) => (Small i ∧ Small j ∧ j - i ≤ 16777216) ∧ K (rngL i j) ρ2
    | _, _ => False
  | .seq, .cons e .nil, ρ, K => wE e ρ fun r ρ1 => frz ρ1 r fun d ρ2 => match d with
    | .list xs => K xs ρ2
    | .tuple xs => K xs ρ2
    | _ => False
  | _, _, _, _ => False
end

/-- what is wanted behind a statement -/
structure SK where
  nx : Ev → Prop
  rt : Rs → Ev → Prop
  bk : Ev → Prop := fun _ => False
/-- a new object, or a value, into a slot -/
def setR (ρ : Ev) (i : Nat) (r : Rs) (k : Ev → Prop) : Prop := match r with
  | .val d => setV ρ i (.val d) k
  | .obj o => setV ρ i (.own o) k
  | .slot _ => frz ρ r fun d ρ1 => setV ρ1 i (.val d) k
/-- a list and a new list behind it -/
def extS (ob : Ob) (r : Rs) (k : Ob → Prop) : Prop := match ob, r with
  | .lst xs, .obj (.lst ys) => xs.length + ys.length ≤ 16777216 ∧ k (.lst (xs ++ ys))
  | _, _ => False
def onVal (r : Rs) (k : PyData → Prop) : Prop := match r with
  | .val d => k d
  | _ => False
def notSlot : Rs → Bool
  | .slot _ => false
  | _ => true
def setRs : Ev → List Nat → List Rs → (Ev → Prop) → Prop
  | ρ, [], [], k => k ρ
  | ρ, i :: is, r :: rs, k => setR ρ i r fun ρ1 => setRs ρ1 is rs k
  | _, _, _, _ => False
/-- a for's turns -/
def wFor (tg : Tg) (body : Ev → SK → Prop) : List PyData → Ev → SK → Prop
  | [], ρ, K => K.nx ρ
  | d :: ds, ρ, K => asgT tg d ρ fun ρ1 => body ρ1 { nx := fun ρ2 => wFor tg body ds ρ2 K, rt := K.rt, bk := K.nx }
def retR (ρ : Ev) (r : Rs) (K : Rs → Ev → Prop) : Prop := match r with
  | .val d => K (.val d) ρ
  | .obj o => K (.obj o) ρ
  | .slot i => match ρ.get i with
    | .own o => K (.obj o) (ρ.set i .no)
    | .val d => K (.val d) ρ
    | _ => False
mutual
def wS : IS → Ev → SK → Prop
  | .set i e, ρ, K => wE Γ e ρ fun r ρ1 => setR ρ1 i r K.nx
  | .setT is e, ρ, K => wE Γ e ρ fun r ρ1 => match r with
    | .val (.tuple ds) => setVs ρ1 is ds K.nx
    | _ => False
  | .par is es, ρ, K => wOs Γ es ρ fun rs ρ1 => rs.all notSlot = true ∧ setRs ρ1 is rs K.nx
  | .setI i ix e, ρ, K => wE Γ e ρ fun r ρ1 => frz ρ1 r fun d ρ2 => isObj ρ2 i ∧ wE Γ ix ρ2 fun r' ρ3 => frz ρ3 r' fun d' ρ4 => objAt ρ4 i fun o c => semSetI o d' d fun o' => K.nx (ρ4.set i (c o'))
  | .aug o i e, ρ, K => match ρ.get i with
    | .val x => wE Γ e ρ fun r ρ1 => frz ρ1 r fun y ρ2 => semO o (.d x) (.d y) fun r' => onVal r' fun z => setV ρ2 i (.val z) K.nx
    | .own (.lst _) => o = .add ∧ wE Γ e ρ fun r ρ1 => objAt ρ1 i fun ob c => extS ob r fun ob' => K.nx (ρ1.set i (c ob'))
    | _ => False
  | .augI o i ix e, ρ, K => isObj ρ i ∧ wE Γ ix ρ fun r ρ1 => frz ρ1 r fun j ρ2 => objAt ρ2 i fun ob c => semIx (.o ob) (.d j) fun x =>
      wE Γ e ρ2 fun r' ρ3 => frz ρ3 r' fun y ρ4 => objAt ρ4 i fun ob' c' => semO o (.d x) (.d y) fun r'' => onVal r'' fun z => semSetI ob' j z fun ob'' => K.nx (ρ4.set i (c' ob''))
  | .ex e, ρ, K => wE Γ e ρ fun _ ρ1 => K.nx ρ1
  | .ret e, ρ, K => wE Γ e ρ fun r ρ1 => retR ρ1 r K.rt
  | .retN, ρ, K => K.rt (.val .none) ρ
  | .ifs c a b, ρ, K => wE Γ c ρ fun r ρ1 => asB r fun t => if t = true then wSs a ρ1 K else wSs b ρ1 K
  | .fo tg ik its body, ρ, K => wIt Γ ik its ρ fun ds ρ1 => wFor tg (wSs body) ds ρ1 K
  | .wh c body, ρ, K => ∃ W : Nat → Ev → Prop, (∃ m, W m ρ) ∧ ∀ m ρ, W m ρ → wE Γ c ρ fun r ρ1 => asB r fun t =>
      if t = true then wSs body ρ1 { nx := fun ρ2 => ∃ m', m' < m ∧ W m' ρ2, rt := K.rt, bk := K.nx } else K.nx ρ1
  | .brk, ρ, K => K.bk ρ
  | .pas, ρ, K => K.nx ρ
def wSs : ISs → Ev → SK → Prop
  | .nil, ρ, K => K.nx ρ
  | .cons s ss, ρ, K => wS s ρ { K with nx := fun ρ1 => wSs ss ρ1 K }
end
end
end Bo

set_option Elab.async false
set_option linter.all false
set_option maxRecDepth 100000
set_option maxHeartbeats 4000000
/-! Bo2: how slots and operands agree with the abstract heap; freezing, pending objects. -/
namespace Bo
open PySem PySem.Spec PyProof.Rows L2

/-! ### data over a part of the heap -/
mutual
theorem dp_mono {K : PySem.W.Frag} {F F' : Hp} (h : Same F F') : ∀ (d : PyData) (v : V), Dp K F v d → Dp K F' v d
  | .none, _, x => by cases x; exact .non
  | .bool b, _, x => by cases x; exact .bl b
  | .int i, _, x => by cases x; exact .int i
  | .str s, _, x => by cases x; exact .str s
  | .list ds, _, x => by
    cases x with
    | lst hs ha => exact .lst (h.seq hs) (dpa_mono h ds _ ha)
  | .tuple ds, _, x => by
    cases x with
    | tup hs ha =>
      refine .tup ?_ (dpa_mono h ds _ ha)
      rcases hs with (hs | ⟨o, hs⟩) | hs
      · exact .inl (.inl (h _ _ hs))
      · exact .inl (.inr ⟨o, h _ _ hs⟩)
      · exact .inr hs
  | .dict _, _, x => by cases x
theorem dpa_mono {K : PySem.W.Frag} {F F' : Hp} (h : Same F F') : ∀ (ds : List PyData) (vs : List V), DpAll K F vs ds → DpAll K F' vs ds
  | [], _, x => by cases x; exact .nil
  | d :: ds, _, x => by
    cases x with
    | cons a b => exact .cons (dp_mono h d _ a) (dpa_mono h ds _ b)
end
end Bo
namespace L2
open PySem PySem.Spec PyProof.Rows
theorem DpAll.length {K : PySem.W.Frag} {F : Hp} : ∀ {vs : List V} {ds : List PyData}, DpAll K F vs ds → vs.length = ds.length
  | _, _, .nil => rfl
  | _, _, .cons _ t => by rw [List.length_cons, List.length_cons, DpAll.length t]
theorem DpAll.append {K : PySem.W.Frag} {F : Hp} : ∀ {vs : List V} {ds : List PyData} {vs' : List V} {ds' : List PyData}, DpAll K F vs ds → DpAll K F vs' ds' → DpAll K F (vs ++ vs') (ds ++ ds')
  | _, _, _, _, .nil, s => s
  | _, _, _, _, .cons a t, s => .cons a (DpAll.append t s)
theorem DpAll.get {K : PySem.W.Frag} {F : Hp} : ∀ {vs : List V} {ds : List PyData} {i : Nat} {d : PyData}, DpAll K F vs ds → ds[i]? = some d → ∃ v, vs[i]? = some v ∧ Dp K F v d
  | _, _, _, _, .nil, e => by simp at e
  | _, _, 0, _, .cons a _, e => by simp at e; subst e; exact ⟨_, rfl, a⟩
  | _, _, i + 1, d, .cons _ t, e => by
    obtain ⟨v, h1, h2⟩ := DpAll.get (i := i) (d := d) t (by simpa using e)
    exact ⟨v, by simpa using h1, h2⟩
theorem DpAll.getV {K : PySem.W.Frag} {F : Hp} : ∀ {vs : List V} {ds : List PyData} {i : Nat} {v : V}, DpAll K F vs ds → vs[i]? = some v → ∃ d, ds[i]? = some d ∧ Dp K F v d
  | _, _, _, _, .nil, e => by simp at e
  | _, _, 0, _, .cons a _, e => by simp at e; subst e; exact ⟨_, rfl, a⟩
  | _, _, i + 1, v, .cons _ t, e => by
    obtain ⟨d, h1, h2⟩ := DpAll.getV (i := i) (v := v) t (by simpa using e)
    exact ⟨d, by simpa using h1, h2⟩
theorem DpAll.take {K : PySem.W.Frag} {F : Hp} : ∀ {vs : List V} {ds : List PyData} (n : Nat), DpAll K F vs ds → DpAll K F (vs.take n) (ds.take n)
  | _, _, 0, _ => .nil
  | _, _, _ + 1, .nil => .nil
  | _, _, n + 1, .cons a t => .cons a (DpAll.take n t)
theorem DpAll.drop {K : PySem.W.Frag} {F : Hp} : ∀ {vs : List V} {ds : List PyData} (n : Nat), DpAll K F vs ds → DpAll K F (vs.drop n) (ds.drop n)
  | _, _, 0, h => h
  | _, _, _ + 1, .nil => .nil
  | _, _, n + 1, .cons _ t => DpAll.drop n t
theorem DpAll.set {K : PySem.W.Frag} {F : Hp} {v : V} {d : PyData} (r : Dp K F v d) : ∀ {vs : List V} {ds : List PyData} (i : Nat), DpAll K F vs ds → DpAll K F (vs.set i v) (ds.set i d)
  | _, _, _, .nil => .nil
  | _, _, 0, .cons _ t => .cons r t
  | _, _, i + 1, .cons q t => .cons q (DpAll.set r i t)
theorem DpAll.eraseIdx {K : PySem.W.Frag} {F : Hp} : ∀ {vs : List V} {ds : List PyData} (i : Nat), DpAll K F vs ds → DpAll K F (vs.eraseIdx i) (ds.eraseIdx i)
  | _, _, _, .nil => .nil
  | _, _, 0, .cons _ t => t
  | _, _, i + 1, .cons q t => .cons q (DpAll.eraseIdx i t)
theorem DpAll.reverse {K : PySem.W.Frag} {F : Hp} : ∀ {vs : List V} {ds : List PyData}, DpAll K F vs ds → DpAll K F vs.reverse ds.reverse
  | _, _, .nil => .nil
  | _, _, .cons q t => by
    rw [List.reverse_cons, List.reverse_cons]
    exact (DpAll.reverse t).append (.cons q .nil)
theorem DpAll.ints {K : PySem.W.Frag} {F : Hp} : ∀ {vs : List V} {ds : List PyData} {ns : List Int}, DpAll K F vs ds → Bo.allI ds = some ns → vs = ns.map V.int ∧ ds = ns.map PyData.int
  | _, _, _, .nil, e => by
    have e' : ([] : List Int) = _ := Option.some.inj e
    subst e'
    exact ⟨rfl, rfl⟩
  | _, d :: ds, ns, .cons a t, e => by
    cases d with
    | int i =>
      cases a
      cases q : Bo.allI ds with
      | none => simp [Bo.allI, q] at e
      | some ms =>
        have e' : i :: ms = ns := by simpa [Bo.allI, q] using e
        subst e'
        obtain ⟨h1, h2⟩ := DpAll.ints t q
        exact ⟨by rw [h1]; rfl, by rw [h2]; rfl⟩
    | _ => simp [Bo.allI] at e
theorem DpAll.bools {K : PySem.W.Frag} {F : Hp} : ∀ {vs : List V} {ds : List PyData} {ns : List Bool}, DpAll K F vs ds → Bo.allB ds = some ns → vs = ns.map V.bl ∧ ds = ns.map PyData.bool
  | _, _, _, .nil, e => by
    have e' : ([] : List Bool) = _ := Option.some.inj e
    subst e'
    exact ⟨rfl, rfl⟩
  | _, d :: ds, ns, .cons a t, e => by
    cases d with
    | bool i =>
      cases a
      cases q : Bo.allB ds with
      | none => simp [Bo.allB, q] at e
      | some ms =>
        have e' : i :: ms = ns := by simpa [Bo.allB, q] using e
        subst e'
        obtain ⟨h1, h2⟩ := DpAll.bools t q
        exact ⟨by rw [h1]; rfl, by rw [h2]; rfl⟩
    | _ => simp [Bo.allB] at e
end L2
namespace Bo
open PySem PySem.Spec PyProof.Rows L2
theorem dp_ints {K : PySem.W.Frag} {F : Hp} : ∀ ns : List Int, DpAll K F (ns.map V.int) (ns.map PyData.int)
  | [] => .nil
  | n :: r => .cons (.int n) (dp_ints r)

/-! ### own objects -/
def ObH (K : PySem.W.Frag) (F : Hp) (ho : HO) (o : Ob) : Prop := match o with
  | .lst xs => ∃ vs, ho = .lst vs ∧ DpAll K F vs xs
  | .dic kvs => ∃ ws : List (Key × V), ho = .dK ws ∧ Paired (fun (a : Key × V) (b : Key × PyData) => a.1 = b.1 ∧ Dp K F a.2 b.2) ws kvs
theorem ObH.mono {K : PySem.W.Frag} {F F' : Hp} (h : Same F F') {ho : HO} {o : Ob} (x : ObH K F ho o) : ObH K F' ho o := by
  cases o with
  | lst xs =>
    obtain ⟨vs, e, a⟩ := x
    exact ⟨vs, e, dpa_mono h _ _ a⟩
  | dic kvs =>
    obtain ⟨ws, e, a⟩ := x
    exact ⟨ws, e, Paired.mapP a fun p q z => ⟨z.1, dp_mono h _ _ z.2⟩⟩
theorem ObH.mut {K : PySem.W.Frag} {F : Hp} {ho : HO} {o : Ob} (x : ObH K F ho o) : Mut (some ho) := by
  cases o with
  | lst xs =>
    obtain ⟨vs, e, a⟩ := x
    subst e; exact trivial
  | dic kvs =>
    obtain ⟨ws, e, a⟩ := x
    subst e; exact trivial

/-! ### slots agree -/
theorem get_set {ρ : Ev} {i j : Nat} {e : En} (h : i < ρ.length) : Ev.get (ρ.set i e) j = if j = i then e else ρ.get j := by
  unfold Ev.get
  rw [List.getD_eq_getElem?_getD, List.getD_eq_getElem?_getD, List.getElem?_set]
  by_cases hj : i = j
  · subst hj; simp [h]
  · have : ¬ j = i := fun z => hj z.symm
    simp [hj, this]
theorem get_set' {ρ : Ev} {i j : Nat} {e : En} : Ev.get (ρ.set i e) j = if j = i ∧ i < ρ.length then e else ρ.get j := by
  by_cases h : i < ρ.length
  · rw [get_set h]
    by_cases hj : j = i <;> simp [hj, h]
  · rw [List.set_eq_of_length_le (by omega)]
    simp [h]
theorem get_lt {ρ : Ev} {i : Nat} (h : ρ.get i ≠ .no) : i < ρ.length := by
  by_cases hi : i < ρ.length
  · exact hi
  · exfalso
    apply h
    unfold Ev.get
    rw [List.getD_eq_getElem?_getD, List.getElem?_eq_none (by omega)]
    rfl
def Keeps (ρ ρ' : Ev) : Prop := ∀ i, ρ.get i ≠ .no → ρ'.get i ≠ .no
theorem Keeps.refl (ρ : Ev) : Keeps ρ ρ := fun _ h => h
theorem Keeps.trans {a b c : Ev} (h : Keeps a b) (h' : Keeps b c) : Keeps a c := fun i x => h' i (h i x)
theorem Keeps.set {ρ : Ev} {i : Nat} {e : En} (h : e ≠ .no) : Keeps ρ (ρ.set i e) := fun j hj => by
  rw [get_set']
  split
  · exact h
  · exact hj

structure Agree (K : PySem.W.Frag) (B : Nat → Option Addr) (ρ : Ev) (σ : L2.St) (H F G : Hp) : Prop where
  fh : Same F H
  gh : Same G H
  fg : ∀ a o, G a = some o → F a = none
  len : ρ.length = σ.length
  val : ∀ i d, ρ.get i = .val d → ∃ v, σ[i]? = some (some v) ∧ Dp K F v d
  obj : ∀ i o, (ρ.get i = .own o ∨ ρ.get i = .bor o) → ∃ a ho, σ[i]? = some (some (.ref a)) ∧ F a = none ∧ G a = none ∧ H a = some ho ∧ ObH K F ho o
  inj : ∀ i j a, isObj ρ i → isObj ρ j → σ[i]? = some (some (.ref a)) → σ[j]? = some (some (.ref a)) → i = j
  bor : ∀ i a, B i = some a → (∃ o, ρ.get i = .bor o) ∧ σ[i]? = some (some (.ref a))
theorem isObj_iff {ρ : Ev} {i : Nat} : isObj ρ i ↔ ∃ o, ρ.get i = .own o ∨ ρ.get i = .bor o := by
  unfold isObj
  cases e : ρ.get i with
  | own o => exact ⟨fun _ => ⟨o, .inl rfl⟩, fun _ => trivial⟩
  | bor o => exact ⟨fun _ => ⟨o, .inr rfl⟩, fun _ => trivial⟩
  | val d => exact ⟨fun h => h.elim, fun ⟨o, h⟩ => by rcases h with h | h <;> cases h⟩
  | no => exact ⟨fun h => h.elim, fun ⟨o, h⟩ => by rcases h with h | h <;> cases h⟩
theorem isObj_congr {ρ ρ' : Ev} {i : Nat} (h : ρ.get i = ρ'.get i) (x : isObj ρ i) : isObj ρ' i := by
  unfold isObj at *
  rw [← h]; exact x

/-- an expression's result stands for a value -/
def ResR (K : PySem.W.Frag) (ρ : Ev) (σ : L2.St) (H F G : Hp) (r : Rs) (v : V) : Prop := match r with
  | .val d => Dp K F v d
  | .slot i => σ[i]? = some (some v) ∧ ρ.get i ≠ .no
  | .obj o => ∃ a ho, v = .ref a ∧ F a = none ∧ G a = none ∧ (∀ j, isObj ρ j → σ[j]? ≠ some (some (.ref a))) ∧ H a = some ho ∧ ObH K F ho o
/-- an operand stands for a value -/
def ArR (K : PySem.W.Frag) (F H : Hp) (x : Ar) (v : V) : Prop := match x with
  | .d d => Dp K F v d
  | .o o => ∃ a ho, v = .ref a ∧ H a = some ho ∧ ObH K F ho o

section
variable {K : PySem.W.Frag} {B : Nat → Option Addr} {ρ ρ' : Ev} {σ : L2.St} {H H' F F' G G' : Hp} {r : Rs} {v : V}
theorem Agree.arg (A : Agree K B ρ σ H F G) (h : ResR K ρ σ H F G r v) : ArR K F H (res ρ r) v := by
  cases r with
  | val d => exact h
  | obj o =>
    obtain ⟨a, ho, e, _, _, _, h1, h2⟩ := h
    exact ⟨a, ho, e, h1, h2⟩
  | slot i =>
    obtain ⟨h1, h2⟩ := h
    unfold res
    show ArR K F H (match ρ.get i with
    | .own o => .o o
    | .bor o => .o o
    | .val d => .d d
    | .no => .d .none) v
    cases e : ρ.get i with
    | no => exact absurd e h2
    | val d =>
      obtain ⟨v', q1, q2⟩ := A.val i d e
      rw [h1] at q1
      cases q1
      exact q2
    | own o =>
      obtain ⟨a, ho, q1, _, _, q2, q3⟩ := A.obj i o (.inl e)
      rw [h1] at q1
      cases q1
      exact ⟨a, ho, rfl, q2, q3⟩
    | bor o =>
      obtain ⟨a, ho, q1, _, _, q2, q3⟩ := A.obj i o (.inr e)
      rw [h1] at q1
      cases q1
      exact ⟨a, ho, rfl, q2, q3⟩
/-- freezing -/
theorem Agree.freezeAt (A : Agree K B ρ σ H F G) {i : Nat} {xs : List PyData} (e : ρ.get i = .own (.lst xs)) (h1 : σ[i]? = some (some v)) :
    ∃ F', Same F F' ∧ Agree K B (ρ.set i (.val (.list xs))) σ H F' G ∧ Dp K F' v (.list xs) := by
  obtain ⟨a, ho, q1, q2, q3, q4, q5⟩ := A.obj i _ (.inl e)
  rw [h1] at q1
  cases q1
  obtain ⟨vs, rfl, q6⟩ := q5
  have hi : i < ρ.length := get_lt (by rw [e]; exact fun z => by cases z)
  have sub : Same F (upd F a (.lst vs)) := fun b o hb => by
    rw [upd_ne (ne_of_none hb q2)]; exact hb
  have oth : ∀ j, isObj (ρ.set i (.val (.list xs))) j → isObj ρ j ∧ j ≠ i := fun j hj => by
    by_cases z : j = i
    · subst z
      unfold isObj at hj
      rw [get_set hi, if_pos rfl] at hj
      exact hj.elim
    · exact ⟨isObj_congr (by rw [get_set hi, if_neg z]) hj, z⟩
  have dd : Dp K (upd F a (.lst vs)) (.ref a) (.list xs) := .lst (.inl (.inl upd_same)) (dpa_mono sub _ _ q6)
  refine ⟨_, sub, ⟨fun b o hb => ?_, A.gh, fun b o hb => ?_, by simpa using A.len, fun j d hj => ?_, fun j o hj => ?_, fun j k b hj hk => A.inj j k b (oth j hj).1 (oth k hk).1, fun j b hj => ?_⟩, dd⟩
  · by_cases hba : b = a
    · subst hba
      rw [upd_same] at hb
      cases hb
      exact q4
    · rw [upd_ne hba] at hb
      exact A.fh b o hb
  · rw [upd_ne (ne_of_none hb q3)]
    exact A.fg b o hb
  · rw [get_set hi] at hj
    by_cases z : j = i
    · subst z
      rw [if_pos rfl] at hj
      cases hj
      exact ⟨_, h1, dd⟩
    · rw [if_neg z] at hj
      obtain ⟨w, z1, z2⟩ := A.val j d hj
      exact ⟨w, z1, dp_mono sub _ _ z2⟩
  · have ob : isObj (ρ.set i (.val (.list xs))) j := isObj_iff.mpr ⟨o, hj⟩
    obtain ⟨ob', z⟩ := oth j ob
    rw [get_set hi, if_neg z] at hj
    obtain ⟨b, ho, z1, z2, z3, z4, z5⟩ := A.obj j o hj
    have hba : b ≠ a := fun y => by
      subst y
      exact z (A.inj j i b ob' (isObj_iff.mpr ⟨_, .inl e⟩) z1 h1)
    exact ⟨b, ho, z1, by rw [upd_ne hba]; exact z2, z3, z4, z5.mono sub⟩
  · obtain ⟨⟨o, z1⟩, z2⟩ := A.bor j b hj
    have z : j ≠ i := fun y => by subst y; rw [e] at z1; cases z1
    exact ⟨⟨o, by rw [get_set hi, if_neg z]; exact z1⟩, z2⟩
theorem Agree.freeze (A : Agree K B ρ σ H F G) (h : ResR K ρ σ H F G r v) {k : PyData → Ev → Prop} (q : frz ρ r k) : ∃ F' ρ' d, Same F F' ∧ Keeps ρ ρ' ∧ Agree K B ρ' σ H F' G ∧ Dp K F' v d ∧ k d ρ' := by
  cases r with
  | val d => exact ⟨F, ρ, d, Same.refl _, Keeps.refl _, A, h, q⟩
  | obj o =>
    cases o with
    | dic kvs => exact (show False from q).elim
    | lst xs =>
      obtain ⟨a, ho, rfl, q1, q2, q3, q4, vs, rfl, q5⟩ := h
      have sub : Same F (upd F a (.lst vs)) := fun b o hb => by
        rw [upd_ne (ne_of_none hb q1)]; exact hb
      refine ⟨_, ρ, _, sub, Keeps.refl _, ⟨fun b o hb => ?_, A.gh, fun b o hb => ?_, A.len, fun j d hj => ?_, fun j o hj => ?_, A.inj, A.bor⟩, .lst (.inl (.inl upd_same)) (dpa_mono sub _ _ q5), q⟩
      · by_cases hba : b = a
        · subst hba
          rw [upd_same] at hb
          cases hb
          exact q4
        · rw [upd_ne hba] at hb
          exact A.fh b o hb
      · rw [upd_ne (ne_of_none hb q2)]
        exact A.fg b o hb
      · obtain ⟨w, z1, z2⟩ := A.val j d hj
        exact ⟨w, z1, dp_mono sub _ _ z2⟩
      · obtain ⟨b, ho, z1, z2, z3, z4, z5⟩ := A.obj j o hj
        have hba : b ≠ a := fun y => by
          subst y
          exact q3 j (isObj_iff.mpr ⟨o, hj⟩) z1
        exact ⟨b, ho, z1, by rw [upd_ne hba]; exact z2, z3, z4, z5.mono sub⟩
  | slot i =>
    obtain ⟨h1, h2⟩ := h
    have q : (match ρ.get i with
      | .own (.lst xs) => k (.list xs) (ρ.set i (.val (.list xs)))
      | .val d => k d ρ
      | _ => False) := q
    cases e : ρ.get i with
    | no => exact absurd e h2
    | val d =>
      rw [e] at q
      obtain ⟨w, z1, z2⟩ := A.val i d e
      rw [h1] at z1
      cases z1
      exact ⟨F, ρ, d, Same.refl _, Keeps.refl _, A, z2, q⟩
    | bor o => rw [e] at q; exact (show False from q).elim
    | own o =>
      rw [e] at q
      cases o with
      | dic kvs => exact (show False from q).elim
      | lst xs =>
        obtain ⟨F', z1, z2, z3⟩ := A.freezeAt e h1
        exact ⟨F', _, _, z1, Keeps.set (fun z => by cases z), z2, z3, q⟩
/-- a result that waits while something else is reckoned -/
theorem Agree.pend (A : Agree K B ρ σ H F G) (h : ResR K ρ σ H F G r v) : ∃ G', Same G G' ∧ Agree K B ρ σ H F G' ∧
    (∀ ρ' H' F', Same F F' → Keeps ρ ρ' → Agree K B ρ' σ H' F' G' → ResR K ρ' σ H' F' G r v ∧ Agree K B ρ' σ H' F' G) ∧ ∀ o, r = .obj o → ∃ a u, v = .ref a ∧ G' a = some u := by
  have weak : ∀ {G' ρ' H' F'}, Same G G' → Agree K B ρ' σ H' F' G' → Agree K B ρ' σ H' F' G := fun {G' ρ' H' F'} hg A' =>
    ⟨A'.fh, fun b o hb => A'.gh b o (hg b o hb), fun b o hb => A'.fg b o (hg b o hb), A'.len, A'.val, fun i o hi => by
      obtain ⟨a, ho, z1, z2, z3, z4⟩ := A'.obj i o hi
      exact ⟨a, ho, z1, z2, hg.free z3, z4⟩, A'.inj, A'.bor⟩
  cases r with
  | val d => exact ⟨G, Same.refl _, A, fun ρ' H' F' hf hk A' => ⟨dp_mono hf _ _ h, A'⟩, fun o e => by cases e⟩
  | slot i => exact ⟨G, Same.refl _, A, fun ρ' H' F' hf hk A' => ⟨⟨h.1, hk i h.2⟩, A'⟩, fun o e => by cases e⟩
  | obj o =>
    obtain ⟨a, ho, rfl, q1, q2, q3, q4, q5⟩ := h
    have sub : Same G (upd G a ho) := fun b o hb => by
      rw [upd_ne (ne_of_none hb q2)]; exact hb
    refine ⟨_, sub, ⟨A.fh, fun b o hb => ?_, fun b o hb => ?_, A.len, A.val, fun j o hj => ?_, A.inj, A.bor⟩, fun ρ' H' F' hf hk A' => ⟨⟨a, ho, rfl, A'.fg a _ upd_same, q2, fun j hj e => ?_, A'.gh a _ upd_same, q5.mono hf⟩, weak sub A'⟩, fun o' e => ⟨a, ho, rfl, upd_same⟩⟩
    · by_cases hba : b = a
      · subst hba
        rw [upd_same] at hb
        cases hb
        exact q4
      · rw [upd_ne hba] at hb
        exact A.gh b o hb
    · by_cases hba : b = a
      · subst hba
        exact q1
      · rw [upd_ne hba] at hb
        exact A.fg b o hb
    · obtain ⟨b, ho, z1, z2, z3, z4⟩ := A.obj j o hj
      have hba : b ≠ a := fun y => by
        subst y
        exact q3 j (isObj_iff.mpr ⟨o, hj⟩) z1
      exact ⟨b, ho, z1, z2, by rw [upd_ne hba]; exact z3, z4⟩
    · obtain ⟨o', ho'⟩ := isObj_iff.mp hj
      obtain ⟨b, ho2, z1, z2, z3, z4⟩ := A'.obj j o' ho'
      rw [z1] at e
      cases e
      rw [upd_same] at z3
      cases z3
theorem ResR.weakG (h : ResR K ρ σ H F G' r v) (hg : Same G G') : ResR K ρ σ H F G r v := by
  cases r with
  | val d => exact h
  | slot i => exact h
  | obj o =>
    obtain ⟨a, ho, e, q1, q2, q3⟩ := h
    exact ⟨a, ho, e, q1, hg.free q2, q3⟩

/-- what an operation leaves: a value or a new object; the heap only grows -/
def Fin (K : PySem.W.Frag) (F H : Hp) (k : Rs → Prop) (v : V) (H' : Hp) : Prop := Same H H' ∧ ∃ r, k r ∧ match r with
  | .val d => ∃ F', Same F F' ∧ Same F' H' ∧ (∀ a, H a ≠ none → F' a = F a) ∧ Dp K F' v d
  | .obj o => ∃ p ho, v = .ref p ∧ H p = none ∧ H' p = some ho ∧ ObH K F ho o
  | .slot _ => False
theorem Fin.here {k : Rs → Prop} {d : PyData} (hF : Same F H) (h : Dp K F v d) (q : k (.val d)) : Fin K F H k v H :=
  ⟨Same.refl _, _, q, F, Same.refl _, hF, fun _ _ => rfl, h⟩
theorem Fin.tup {k : Rs → Prop} {p : Addr} {vs : List V} {ds : List PyData} (hF : Same F H) (hp : H p = none) (h : DpAll K F vs ds) (q : k (.val (.tuple ds))) : Fin K F H k (.ref p) (upd H p (.tup vs)) := by
  have s1 : Same H (upd H p (.tup vs)) := fun b o hb => by rw [upd_ne (ne_of_none hb hp)]; exact hb
  have s2 : Same F (upd F p (.tup vs)) := fun b o hb => by rw [upd_ne (ne_of_none hb (hF.free hp))]; exact hb
  refine ⟨s1, _, q, upd F p (.tup vs), s2, fun b o hb => ?_, fun a ha => ?_, .tup (.inl (.inl upd_same)) (dpa_mono s2 _ _ h)⟩
  · by_cases z : b = p
    · subst z
      rw [upd_same] at hb ⊢
      exact hb
    · rw [upd_ne z] at hb ⊢
      exact hF b o hb
  · by_cases z : a = p
    · subst z
      exact absurd hp ha
    · rw [upd_ne z]
theorem Fin.lst {k : Rs → Prop} {p : Addr} {vs : List V} {ds : List PyData} (hp : H p = none) (h : DpAll K F vs ds) (q : k (.obj (.lst ds))) : Fin K F H k (.ref p) (upd H p (.lst vs)) :=
  ⟨fun b o hb => by rw [upd_ne (ne_of_none hb hp)]; exact hb, _, q, p, .lst vs, rfl, hp, upd_same, vs, rfl, h⟩
theorem Agree.fin (A : Agree K B ρ σ H F G) {k : Rs → Prop} (h : Fin K F H k v H') : ∃ F' r, Same F F' ∧ Agree K B ρ σ H' F' G ∧ ResR K ρ σ H' F' G r v ∧ k r := by
  obtain ⟨hs, r, q, h⟩ := h
  have ext : ∀ F', Same F F' → Same F' H' → (∀ a, H a ≠ none → F' a = F a) → Agree K B ρ σ H' F' G := fun F' h1 h2 h3 => by
    refine ⟨h2, A.gh.trans hs, fun b o hb => ?_, A.len, fun i d hi => ?_, fun i o hi => ?_, A.inj, A.bor⟩
    · rw [h3 b (by rw [A.gh b o hb]; exact fun z => by cases z)]
      exact A.fg b o hb
    · obtain ⟨w, z1, z2⟩ := A.val i d hi
      exact ⟨w, z1, dp_mono h1 _ _ z2⟩
    · obtain ⟨b, ho, z1, z2, z3, z4, z5⟩ := A.obj i o hi
      refine ⟨b, ho, z1, ?_, z3, hs b _ z4, z5.mono h1⟩
      rw [h3 b (by rw [z4]; exact fun z => by cases z)]
      exact z2
  cases r with
  | val d =>
    obtain ⟨F', h1, h2, h3, h4⟩ := h
    exact ⟨F', .val d, h1, ext F' h1 h2 h3, h4, q⟩
  | slot i => exact h.elim
  | obj o =>
    obtain ⟨p, ho, e, h1, h2, h3⟩ := h
    refine ⟨F, .obj o, Same.refl _, ext F (Same.refl _) (A.fh.trans hs) (fun _ _ => rfl), ⟨p, ho, e, A.fh.free h1, A.gh.free h1, fun j hj z => ?_, h2, h3⟩, q⟩
    obtain ⟨o', ho'⟩ := isObj_iff.mp hj
    obtain ⟨b, ho2, z1, z2, z3, z4, z5⟩ := A.obj j o' ho'
    rw [z1] at z
    cases z
    rw [h1] at z4
    cases z4
end
end Bo

set_option Elab.async false
set_option linter.all false
set_option maxRecDepth 100000
set_option maxHeartbeats 4000000
/-! Bo3: operations, comparisons, built-ins, by values. -/
namespace Bo
open PySem PySem.Spec PyProof.Rows L2

theorem opt_some {α : Type} {o : Option α} {k : α → Prop} (h : opt o k) : ∃ x, o = some x ∧ k x := by
  cases o with
  | none => exact (show False from h).elim
  | some x => exact ⟨x, rfl, h⟩
theorem same_t {K : PySem.W.Frag} {H H' : Hp} {a : Addr} {xs : List V} (e : Same H H') (h : SqT K H a xs) : SqT K H' a xs := by
  rcases h with (h | ⟨o, h⟩) | h
  · exact .inl (.inl (e _ _ h))
  · exact .inl (.inr ⟨o, e _ _ h⟩)
  · exact .inr h
section
variable {K : PySem.W.Frag} {F H : Hp} {x : Ar} {v : V} {xs : List PyData}
theorem ArR.lstq (h : ArR K F H x v) (e : x.lst = some xs) (hs : Same F H) : ∃ a vs, v = .ref a ∧ SqL K H a vs ∧ DpAll K F vs xs := by
  cases x with
  | d d =>
    cases d with
    | list ys =>
      cases (show some ys = some xs from e)
      cases h with
      | lst h1 h2 => exact ⟨_, _, rfl, hs.seq h1, h2⟩
    | _ => cases (show (none : Option (List PyData)) = some xs from e)
  | o o =>
    cases o with
    | lst ys =>
      cases (show some ys = some xs from e)
      obtain ⟨a, ho, rfl, h1, vs, rfl, h2⟩ := h
      exact ⟨_, _, rfl, .of h1, h2⟩
    | dic _ => cases (show (none : Option (List PyData)) = some xs from e)
theorem ArR.seqq (h : ArR K F H x v) (e : x.seq = some xs) (hs : Same F H) : ∃ a vs, v = .ref a ∧ (SqL K H a vs ∨ SqT K H a vs) ∧ DpAll K F vs xs := by
  cases x with
  | d d =>
    cases d with
    | list ys =>
      cases (show some ys = some xs from e)
      cases h with
      | lst h1 h2 => exact ⟨_, _, rfl, .inl (hs.seq h1), h2⟩
    | tuple ys =>
      cases (show some ys = some xs from e)
      cases h with
      | tup h1 h2 => exact ⟨_, _, rfl, .inr (same_t hs h1), h2⟩
    | _ => cases (show (none : Option (List PyData)) = some xs from e)
  | o o =>
    cases o with
    | lst ys =>
      cases (show some ys = some xs from e)
      obtain ⟨a, ho, rfl, h1, vs, rfl, h2⟩ := h
      exact ⟨_, _, rfl, .inl (.of h1), h2⟩
    | dic _ => cases (show (none : Option (List PyData)) = some xs from e)
theorem ArR.dpq (h : ArR K F H x v) {d : PyData} (e : x.dat = some d) (hs : Same F H) : Dp K H v d := by
  cases x with
  | d d' =>
    cases (show some d' = some d from e)
    exact dp_mono hs _ _ h
  | o o =>
    cases o with
    | lst ys =>
      cases (show some (PyData.list ys) = some d from e)
      obtain ⟨a, ho, rfl, h1, vs, rfl, h2⟩ := h
      exact .lst (.of h1) (dpa_mono hs _ _ h2)
    | dic _ => cases (show (none : Option PyData) = some d from e)
end

/-! ### a op b -/
def opOf : O2 → Operator
  | .add => .Add
  | .sub => .Sub
  | .mul => .Mult
  | .fdiv => .FloorDiv
  | .mod => .Mod
  | .pow => .Pow
/-- two operands, what is asked of them, what follows -/
def rSem (K : PySem.W.Frag) (sem : Ar → Ar → (Rs → Prop) → Prop) : R2 := fun x y H Q => ∃ (F : Hp) (a b : Ar) (k : Rs → Prop), Same F H ∧ ArR K F H a x ∧ ArR K F H b y ∧ sem a b k ∧ ∀ v H', Fin K F H k v H' → Q v H'
section
variable {X : Cx}
/-- lists -/
def rCatL (K : PySem.W.Frag) : R2 := fun x y H Q => ∃ l b xs zs, x = .ref l ∧ y = .ref b ∧ SqL K H l xs ∧ SqL K H b zs ∧ xs.length + zs.length ≤ sizeLine ∧ ∀ p, H p = none → Q (.ref p) (upd H p (.lst (xs ++ zs)))
theorem op_catL : OpR X (binaryOp .Add) (rCatL X.K) := by
  intro pins s σ H x y v u Q I rx ry h
  obtain ⟨l, b, xs, zs, rfl, rfl, hl, hb, hz, q⟩ := h
  cases rx
  cases ry
  obtain ⟨its, r1, p1, z1⟩ := I.list hl
  obtain ⟨its2, r2, p2, z2⟩ := I.list hb
  obtain ⟨⟨cls, dd, data, sl⟩, ho, hc, n, hd⟩ := id p1.isList
  obtain ⟨⟨cls2, dd2, data2, sl2⟩, ho2, hc2, n2, hd2⟩ := id p2.isList
  simp only at hc hd hc2 hd2
  subst hc hd hc2 hd2
  have e1 := r1.length
  have e2 := r2.length
  have ea : its.toArray ++ its2.toArray = (its ++ its2).toArray := by simp
  refine concat_meets ⟨_, ho, rfl⟩ ⟨_, ho2, rfl⟩ noFill_list_add seq_list_add PySem.F.slot_list_add PySem.F.entry_list_add (PySem.F.args_list_add_2 _ _)
    (list_addW l b its.toArray its2.toArray n n2 dd dd2 sl sl2 (by rw [List.size_toArray, List.size_toArray]; omega)) ⟨ho, ho2, ?_⟩
  rw [ea]
  exact ⟨.ref _, _, I.lnew (t' := s.toks) (r1.append r2) (by rw [List.length_append]; omega), rfl, q _ I.fresh⟩
theorem lst_ne {a : Ar} {xs : List PyData} (h : a.lst = some xs) : (∃ d, a = .d (.list d)) ∨ ∃ d, a = .o (.lst d) := by
  cases a with
  | d d => cases d with
    | list ys => exact .inl ⟨_, rfl⟩
    | _ => cases h
  | o o => cases o with
    | lst ys => exact .inr ⟨_, rfl⟩
    | _ => cases h
/-- what semO asks, read -/
theorem semO_cases {o : O2} {a b : Ar} {k : Rs → Prop} (h : semO o a b k) :
    (∃ i j, a = .d (.int i) ∧ b = .d (.int j) ∧ ((o = .add ∧ k (.val (.int (i + j)))) ∨ (o = .sub ∧ k (.val (.int (i - j)))) ∨ (o = .mul ∧ MulOk i j ∧ k (.val (.int (i * j)))) ∨
      (o = .fdiv ∧ (0 < j ∧ j.natAbs.log2 < 9000) ∧ k (.val (.int (i / j)))) ∨ (o = .mod ∧ 0 < j ∧ k (.val (.int (i % j)))) ∨ (o = .pow ∧ (0 ≤ j ∧ j ≤ 1000000 ∧ i.natAbs < 2 ^ 64) ∧ k (.val (.int (i ^ j.toNat)))))) ∨
    (∃ xs ys, o = .add ∧ a = .d (.tuple xs) ∧ b = .d (.tuple ys) ∧ xs.length + ys.length ≤ 16777216 ∧ k (.val (.tuple (xs ++ ys)))) ∨
    (∃ xs ys, o = .add ∧ a.lst = some xs ∧ b.lst = some ys ∧ xs.length + ys.length ≤ 16777216 ∧ k (.obj (.lst (xs ++ ys)))) ∨
    (∃ xs j, o = .mul ∧ a = .d (.tuple xs) ∧ b = .d (.int j) ∧ (xs ≠ [] ∧ 2 ≤ j ∧ j ≤ 1000 ∧ xs.length ≤ 1000) ∧ k (.val (.tuple (List.replicate j.toNat xs).flatten))) ∨
    (∃ xs j, o = .mul ∧ a = .o (.lst xs) ∧ b = .d (.int j) ∧ (-(2 ^ 63) ≤ j ∧ j < 2 ^ 63 ∧ xs.length * j.toNat ≤ 16777216) ∧ k (.obj (.lst (List.replicate j.toNat xs).flatten))) := by
  unfold semO at h
  split at h
  · exact .inl ⟨_, _, rfl, rfl, .inl ⟨rfl, h⟩⟩
  · exact .inr (.inl ⟨_, _, rfl, rfl, rfl, h⟩)
  · obtain ⟨xs, e1, h⟩ := opt_some h
    obtain ⟨ys, e2, h⟩ := opt_some h
    exact .inr (.inr (.inl ⟨xs, ys, rfl, e1, e2, h⟩))
  · exact .inl ⟨_, _, rfl, rfl, .inr (.inl ⟨rfl, h⟩)⟩
  · exact .inl ⟨_, _, rfl, rfl, .inr (.inr (.inl ⟨rfl, h⟩))⟩
  · exact .inr (.inr (.inr (.inl ⟨_, _, rfl, rfl, rfl, h⟩)))
  · exact .inr (.inr (.inr (.inr ⟨_, _, rfl, rfl, rfl, h⟩)))
  · exact .inl ⟨_, _, rfl, rfl, .inr (.inr (.inr (.inl ⟨rfl, h⟩)))⟩
  · exact .inl ⟨_, _, rfl, rfl, .inr (.inr (.inr (.inr (.inl ⟨rfl, h⟩))))⟩
  · exact .inl ⟨_, _, rfl, rfl, .inr (.inr (.inr (.inr (.inr ⟨rfl, h⟩))))⟩
  · exact h.elim
theorem line_eq : sizeLine = 16777216 := sizeLine_eq
/-- tuples: what t + u gives -/
theorem catA_fin {K : PySem.W.Frag} {F H : Hp} {x y : V} {xs ys : List PyData} {k : Rs → Prop} {Q : VK} (hs : Same F H) (ha : ArR K F H (.d (.tuple xs)) x) (hb : ArR K F H (.d (.tuple ys)) y)
    (hl : xs.length + ys.length ≤ 16777216) (hk : k (.val (.tuple (xs ++ ys)))) (hq : ∀ v H', Fin K F H k v H' → Q v H') : rCatA K x y H Q := by
  cases ha with
  | tup h1 h2 =>
    cases hb with
    | tup h3 h4 =>
      rename_i a vs b ws
      have e1 := h2.length
      have e2 := h4.length
      refine ⟨a, b, vs, ws, rfl, rfl, same_t hs h1, same_t hs h3, by rw [line_eq]; omega, fun z => hq _ _ ?_, fun z1 z2 => hq _ _ ?_, fun z1 z2 p hp => hq _ _ ?_⟩
      · subst z
        cases h2
        exact Fin.here hs (.tup h3 h4) hk
      · subst z2
        cases h4
        rw [List.append_nil] at hk
        exact Fin.here hs (.tup h1 h2) hk
      · exact Fin.tup hs hp (h2.append h4) hk
theorem dpa_rep {K : PySem.W.Frag} {F : Hp} {vs : List V} {ds : List PyData} (h : DpAll K F vs ds) : ∀ n : Nat, DpAll K F (List.replicate n vs).flatten (List.replicate n ds).flatten
  | 0 => .nil
  | n + 1 => by
    rw [List.replicate_succ, List.replicate_succ, List.flatten_cons, List.flatten_cons]
    exact h.append (dpa_rep h n)
theorem op_sound (o : O2) : OpR X (binaryOp (opOf o)) (rSem X.K (semO o)) := by
  intro pins s σ H x y v u Q I rx ry h
  obtain ⟨F, a, b, k, hs, ha, hb, hsem, hq⟩ := h
  rcases semO_cases hsem with ⟨i, j, rfl, rfl, h⟩ | ⟨xs, ys, rfl, rfl, rfl, hl, hk⟩ | ⟨xs, ys, rfl, e1, e2, hl, hk⟩ | ⟨xs, j, rfl, rfl, rfl, ⟨m1, m2, m3, m4⟩, hk⟩ | ⟨xs, j, rfl, rfl, rfl, ⟨m1, m2, m3⟩, hk⟩
  · cases ha
    cases hb
    have fin : ∀ n : Int, k (.val (.int n)) → Q (.int n) H := fun n hk => hq _ _ (Fin.here hs (.int n) hk)
    rcases h with ⟨rfl, hk⟩ | ⟨rfl, hk⟩ | ⟨rfl, hm, hk⟩ | ⟨rfl, hm, hk⟩ | ⟨rfl, hm, hk⟩ | ⟨rfl, hm, hk⟩
    · exact op_add pins s σ H _ _ v u Q I rx ry ⟨i, j, rfl, rfl, fin _ hk⟩
    · exact op_sub pins s σ H _ _ v u Q I rx ry ⟨i, j, rfl, rfl, fin _ hk⟩
    · rcases hm with hm | hm
      · exact op_mul pins s σ H _ _ v u Q I rx ry ⟨i, j, rfl, rfl, hm, fin _ hk⟩
      · exact op_mulW pins s σ H _ _ v u Q I rx ry ⟨i, j, rfl, rfl, hm, fin _ hk⟩
    · exact op_fdivW pins s σ H _ _ v u Q I rx ry ⟨i, j, rfl, rfl, hm, fin _ hk⟩
    · exact op_mod pins s σ H _ _ v u Q I rx ry ⟨i, j, rfl, rfl, hm, fin _ hk⟩
    · exact op_pow pins s σ H _ _ v u Q I rx ry ⟨i, j, rfl, rfl, hm, fin _ hk⟩
  · exact op_catA pins s σ H _ _ v u Q I rx ry (catA_fin hs ha hb hl hk hq)
  · obtain ⟨a', vs, rfl, h1, h2⟩ := ha.lstq e1 hs
    obtain ⟨b', ws, rfl, h3, h4⟩ := hb.lstq e2 hs
    have l1 := h2.length
    have l2 := h4.length
    exact op_catL pins s σ H _ _ v u Q I rx ry ⟨a', b', vs, ws, rfl, rfl, h1, h3, by rw [line_eq]; omega, fun p hp => hq _ _ (Fin.lst hp (h2.append h4) hk)⟩
  · cases hb
    cases ha with
    | tup h1 h2 =>
      rename_i a' vs
      have l1 := h2.length
      refine op_repT pins s σ H _ _ v u Q I rx ry ⟨a', j, vs, rfl, rfl, same_t hs h1, fun e => m1 (by subst e; cases h2; rfl), m2, m3, by omega, fun p hp => hq _ _ (Fin.tup hs hp (dpa_rep h2 _) hk)⟩
  · cases hb
    obtain ⟨a', ho, rfl, h1, vs, rfl, h2⟩ := ha
    have l1 := h2.length
    exact op_rep pins s σ H _ _ v u Q I rx ry ⟨a', j, vs, rfl, rfl, h1, m1, m2, by rw [line_eq, l1]; exact m3, fun p hp => hq _ _ (Fin.lst hp (dpa_rep h2 _) hk)⟩
/-- op= where nothing is changed in place: ints, tuples -/
theorem itup_typeIs {s : Shared} {H : Hp} {σ : L2.St} {pins : List (Addr × Obj)} {a : Addr} {xs : List V} (I : Inv X pins σ H s) (h : SqT X.K H a xs) : s.TypeIs (.ref a) "tuple" := by
  obtain ⟨its, r, p, z⟩ := I.tuple h
  exact p.typeIs
end
end Bo

set_option Elab.async false
set_option linter.all false
set_option maxRecDepth 100000
set_option maxHeartbeats 8000000
/-! BoA: built-in calls over data: sum of a tuple, min and max, sorted, a set of a list of ints. -/
namespace Bo
open PySem PySem.Spec PyProof.Rows L2
section
variable {X : Cx}
/-- sum(t), ints -/
def rSumT (K : PySem.W.Frag) : List V → Hp → VK → Prop := fun vs H Q => ∃ (a : Addr) (ns : List Int), vs = [V.ref a] ∧ SqT K H a (ns.map V.int) ∧ Q (.int ns.sum) H
theorem preSum_get (ns : List Int) : ∀ k, k ≤ ns.length → preSum (fun i => ns.getD i 0) k = (ns.take k).sum
  | 0, _ => rfl
  | k + 1, h => by
    have hk : k < ns.length := h
    show preSum (fun i => ns.getD i 0) k + ns.getD k 0 = _
    rw [preSum_get ns k (by omega), List.take_add_one, List.getElem?_eq_getElem hk, List.getD_eq_getElem?_getD, List.getElem?_eq_getElem hk, List.sum_append]
    simp
theorem cr_sumT (hc : X.calm = true) : CallR X (.builtin "sum") (rSumT X.K) := by
  intro pins s σ H vs us Q I r h
  obtain ⟨a, ns, rfl, hs, q⟩ := h
  obtain ⟨its, rv, ht, _⟩ := I.tuple hs
  rw [Vals.ref1 r]
  have hi := rv.ints
  have hlen : its.toArray.size = ns.length := by rw [List.size_toArray]; exact IntsAre.length hi
  have hlt : a < s.heap.objs.size := by obtain ⟨_, e, _⟩ := ht; exact Heap.lt_size e
  have tupIs : s.heap.IsTuple a its.toArray := ht
  refine call_sum_walkG (wpAny_pyIter_tuple tupIs ?_)
  have st0 : ((s.heap.push { cls := .type "tuple_iterator", data := .fields #[.ref a, .int 0 0] }).IsTupleIter s.heap.objs.size a 0) ∧ (s.heap.push { cls := .type "tuple_iterator", data := .fields #[.ref a, .int 0 0] }).IsTuple a its.toArray := ⟨⟨_, Heap.get?_push_size _ rfl, rfl, rfl⟩, tupIs.push _⟩
  refine ⟨_, _, _, _, _, _, fun i => ns.getD i 0, rfl, Walks.tuple (A := X.A.in1) (I.ok.hd hc) s.heap.objs.size a (Nat.ne_of_lt hlt) its.toArray, st0, fun b hb => ?_, fun i v hv => ?_, fun h' tk t' hk => ?_⟩
  · show b < (s.heap.push _).objs.size
    rw [Heap.size_push]
    simp only [List.mem_cons, List.not_mem_nil, or_false] at hb
    rcases hb with e | e <;> rw [e]
    · exact Nat.lt_succ_self _
    · exact Nat.lt_succ_of_lt hlt
  · obtain ⟨t, e⟩ := PyProof.Rows.IntsAre.int_at hi i v (by simpa using hv)
    exact ⟨t, e⟩
  · refine ⟨.int ns.sum, H, I.kept (fun b o e => hk b o ?_ (Heap.get?_push_of_some _ e)), ⟨t', ?_⟩, q⟩
    · intro hb
      rw [List.mem_singleton] at hb
      subst hb
      exact absurd (Heap.lt_size e) (Nat.lt_irrefl _)
    · show Value.int (preSum (fun i => ns.getD i 0) its.toArray.size) t' = Value.int ns.sum t'
      rw [hlen, preSum_get ns _ (Nat.le_refl _), List.take_length]

/-! ### min, max over data of one kind -/
theorem depth_all {xs : List PyData} (h : SeqAt.shaped (.list xs) = true) : PyData.depthAll xs ≤ 63 := by
  have := SeqAt.depth_of_shaped h
  simp only [PyData.depth] at this
  omega
/-- the item that reads so is the one of that datum -/
theorem item_at {pins : List (Addr × Obj)} {s : Shared} {σ : L2.St} {H : Hp} {ws : List V} {xs : List PyData} {its : List Value} {i : Nat} {v : Value} {d : PyData} {h' : Heap} {bs : List Addr} (I : Inv X pins σ H s) (hx : DpAll X.K H ws xs) (rv : Vals ws its) (hv : its[i]? = some v)
    (lay : PyData.canLayAll0 xs = true) (hd : d ∈ xs) (r : Reads h' v d bs) (k : ∀ b o, s.heap.get? b = some o → h'.get? b = some o) : ∃ w, ws[i]? = some w ∧ RelV w v ∧ xs[i]? = some d ∧ Dp X.K H w d := by
  obtain ⟨as, h4⟩ := Dp.readsAll I xs _ its hx rv
  have em := SeqAt.readsAll_map xs its as lay h4
  obtain ⟨w, hw, rw_⟩ := Paired.get' rv hv
  obtain ⟨d', hd', hdp⟩ := hx.getV hw
  have lay' : ∀ {y}, y ∈ xs → y.canLay0 = true := fun {y} hy => lay_mem lay hy
  obtain ⟨cs, r1⟩ := Dp.reads I d' w v hdp rw_
  have e1 := SeqAt.readOf_eq (lay' (List.mem_of_getElem? hd')) (PyProof.Rows.Reads.keeps k r1)
  have e2 := SeqAt.readOf_eq (lay' hd) r
  rw [e1] at e2
  subst e2
  exact ⟨w, hw, rw_, hd', hdp⟩
where
  lay_mem : ∀ {xs : List PyData} {y : PyData}, PyData.canLayAll0 xs = true → y ∈ xs → y.canLay0 = true
    | x :: xs, y, h, hy => by
      have h : (x.canLay0 && PyData.canLayAll0 xs) = true := by simpa [PyData.canLayAll0] using h
      obtain ⟨h1, h2⟩ := Bool.and_eq_true_iff.mp h
      rcases List.mem_cons.mp hy with e | e
      · rw [e]; exact h1
      · exact lay_mem h2 e
  Paired.get' : ∀ {xs : List V} {us : List Value} {i : Nat} {u : Value}, Vals xs us → us[i]? = some u → ∃ x, xs[i]? = some x ∧ RelV x u
    | _, _, 0, _, .cons r _, h => ⟨_, rfl, by simp at h; subst h; exact r⟩
    | _, _, i + 1, _, .cons _ t, h => by
      obtain ⟨x, a, b⟩ := Paired.get' (i := i) t (by simpa using h)
      exact ⟨x, by simpa using a, b⟩
theorem foldSel_mem (f : PyData → PyData → Bool) : ∀ (xs : List PyData) (x : PyData), xs.foldl (fun a y => if f y a then y else a) x ∈ x :: xs
  | [], x => List.mem_cons_self
  | y :: xs, x => by
    have := foldSel_mem f xs (if f y x then y else x)
    rw [List.foldl_cons]
    rcases List.mem_cons.mp this with e | e
    · rw [e]
      split
      · exact List.mem_cons_of_mem _ List.mem_cons_self
      · exact List.mem_cons_self
    · exact List.mem_cons_of_mem _ (List.mem_cons_of_mem _ e)
def rMinD (K : PySem.W.Frag) : List V → Hp → VK → Prop := fun vs H Q => ∃ (a : Addr) (ws : List V) (x : PyData) (xs : List PyData), vs = [V.ref a] ∧ (SqL K H a ws ∨ SqT K H a ws) ∧ DpAll K H ws (x :: xs) ∧ CmpAll (x :: xs) ∧
  ∀ (w : V) (i : Nat), ws[i]? = some w → (x :: xs)[i]? = some (W.minD x xs) → Q w H
def rMaxD (K : PySem.W.Frag) : List V → Hp → VK → Prop := fun vs H Q => ∃ (a : Addr) (ws : List V) (x : PyData) (xs : List PyData), vs = [V.ref a] ∧ (SqL K H a ws ∨ SqT K H a ws) ∧ DpAll K H ws (x :: xs) ∧ CmpAll (x :: xs) ∧
  ∀ (w : V) (i : Nat), ws[i]? = some w → (x :: xs)[i]? = some (W.maxD x xs) → Q w H
theorem cr_minD (hc : X.calm = true) (hu : X.A.units + 65 < cLine) : CallR X (.builtin "min") (rMinD X.K) := by
  intro pins s σ H vs us Q I r h
  obtain ⟨a, ws, x, xs, rfl, hs, hd, ⟨al, sh⟩, q⟩ := h
  rw [Vals.ref1 r]
  have lay : PyData.canLayAll0 (x :: xs) = true := SeqAt.canLay_of_shaped sh
  have dep := depth_all sh
  have mem : W.minD x xs ∈ x :: xs := foldSel_mem (fun y a => W.dataLt y a) xs x
  rcases hs with hs | hs
  · obtain ⟨its, rv, hl, _⟩ := I.list hs
    obtain ⟨as, h4⟩ := Dp.readsAll I _ _ its hd rv
    refine W.min_list_data (I.ok.hd hc) hl.isList (show ReadsAll s.heap its.toArray.toList (x :: xs) as from h4) al (by omega) fun i v h' tk bs hv hr k => ?_
    obtain ⟨w, h1, h2, h3, _⟩ := item_at I hd rv (by simpa using hv) lay mem hr k
    exact ⟨w, H, I.kept k, h2, q w i h1 h3⟩
  · obtain ⟨its, rv, hl, _⟩ := I.tuple hs
    obtain ⟨as, h4⟩ := Dp.readsAll I _ _ its hd rv
    refine W.min_tuple_data (I.ok.hd hc) (show s.heap.IsTuple a its.toArray from hl) (show ReadsAll s.heap its.toArray.toList (x :: xs) as from h4) al (by omega) fun i v h' tk bs hv hr k => ?_
    obtain ⟨w, h1, h2, h3, _⟩ := item_at I hd rv (by simpa using hv) lay mem hr k
    exact ⟨w, H, I.kept k, h2, q w i h1 h3⟩
theorem cr_maxD (hc : X.calm = true) (hu : X.A.units + 65 < cLine) : CallR X (.builtin "max") (rMaxD X.K) := by
  intro pins s σ H vs us Q I r h
  obtain ⟨a, ws, x, xs, rfl, hs, hd, ⟨al, sh⟩, q⟩ := h
  rw [Vals.ref1 r]
  have lay : PyData.canLayAll0 (x :: xs) = true := SeqAt.canLay_of_shaped sh
  have dep := depth_all sh
  have mem : W.maxD x xs ∈ x :: xs := foldSel_mem (fun y a => W.dataLt a y) xs x
  rcases hs with hs | hs
  · obtain ⟨its, rv, hl, _⟩ := I.list hs
    obtain ⟨as, h4⟩ := Dp.readsAll I _ _ its hd rv
    refine W.max_list_data (I.ok.hd hc) hl.isList (show ReadsAll s.heap its.toArray.toList (x :: xs) as from h4) al (by omega) fun i v h' tk bs hv hr k => ?_
    obtain ⟨w, h1, h2, h3, _⟩ := item_at I hd rv (by simpa using hv) lay mem hr k
    exact ⟨w, H, I.kept k, h2, q w i h1 h3⟩
  · obtain ⟨its, rv, hl, _⟩ := I.tuple hs
    obtain ⟨as, h4⟩ := Dp.readsAll I _ _ its hd rv
    refine W.max_tuple_data (I.ok.hd hc) (show s.heap.IsTuple a its.toArray from hl) (show ReadsAll s.heap its.toArray.toList (x :: xs) as from h4) al (by omega) fun i v h' tk bs hv hr k => ?_
    obtain ⟨w, h1, h2, h3, _⟩ := item_at I hd rv (by simpa using hv) lay mem hr k
    exact ⟨w, H, I.kept k, h2, q w i h1 h3⟩

/-! ### sorted over data of one kind -/
theorem pairMap {α β : Type} {R R' : α → β → Prop} {as : List α} {bs : List β} (p : Paired R as bs) (f : ∀ a b, R a b → R' a b) : Paired R' as bs := by
  induction p with
  | nil => exact .nil
  | cons h _ ih => exact .cons (f _ _ h) ih
theorem eachIs_of {α β : Type} {R : α → β → Prop} : ∀ {as : List α} {bs : List β}, Paired R as bs → W.EachIs R as bs
  | _, _, .nil => .nil
  | _, _, .cons h t => .cons h (eachIs_of t)
theorem of_eachIs {α β : Type} {R : α → β → Prop} : ∀ {as : List α} {bs : List β}, W.EachIs R as bs → Paired R as bs
  | _, _, .nil => .nil
  | _, _, .cons h t => .cons h (of_eachIs t)
theorem vals_dp {pins : List (Addr × Obj)} {s : Shared} {σ : L2.St} {H F : Hp} (I : Inv X pins σ H s) (hs : Same F H) : ∀ {ws : List V} {its : List Value} {xs : List PyData}, DpAll X.K F ws xs → Vals ws its →
    Paired (fun (v : Value) (d : PyData) => (∃ w, RelV w v ∧ Dp X.K F w d) ∧ ∃ as, Reads s.heap v d as) its xs
  | _, _, _, .nil, .nil => .nil
  | _, _, _, .cons a b, .cons r t => by
    obtain ⟨cs, r1⟩ := Dp.reads I _ _ _ (dp_mono hs _ _ a) r
    exact .cons ⟨⟨_, r, a⟩, cs, r1⟩ (vals_dp I hs b t)
theorem dp_vals {K : PySem.W.Frag} {H : Hp} : ∀ {its : List Value} {xs : List PyData}, Paired (fun (v : Value) (d : PyData) => ∃ w, RelV w v ∧ Dp K H w d) its xs → ∃ ws, Vals ws its ∧ DpAll K H ws xs
  | _, _, .nil => ⟨[], .nil, .nil⟩
  | _, _, .cons ⟨w, r, a⟩ t => by
    obtain ⟨ws, h1, h2⟩ := dp_vals t
    exact ⟨w :: ws, .cons r h1, .cons a h2⟩
def rSrtD (K : PySem.W.Frag) : List V → Hp → VK → Prop := fun vs H Q => ∃ (F : Hp) (a : Addr) (ws : List V) (xs : List PyData), Same F H ∧ vs = [V.ref a] ∧ SqL K H a ws ∧ DpAll K F ws xs ∧ SrtOk xs ∧
  ∀ (ws' : List V) (p : Addr), DpAll K F ws' (srtD false xs) → H p = none → Q (.ref p) (upd H p (.lst ws'))
theorem cr_srtD (hu : X.A.units + 65 < cLine) : CallR X (.builtin "sorted") (rSrtD X.K) := by
  intro pins s σ H vs us Q I r h
  obtain ⟨F, a, ws, xs, hs, rfl, hl, hd, ⟨⟨al, sr⟩, dp⟩, q⟩ := h
  rw [Vals.ref1 r]
  obtain ⟨its, rv, pl, hz⟩ := I.list hl
  have pr := vals_dp I hs hd rv
  have em : xs.map id = xs := List.map_id xs
  refine W.sorted_data (vs := its) (bs := xs) (enc := id) (R := fun v d => ∃ w, RelV w v ∧ Dp X.K F w d) pl.isList (eachIs_of (pairMap pr fun _ _ z => z.1)) (eachIs_of (pairMap pr fun _ _ z => z.2)) (by rw [em]; exact al) (by rw [em]; exact sr) ?_ (fun b hb => ?_) fun out h1 h2 => ?_
  · have := hd.length
    omega
  · have := dp b hb
    show X.A.units + 2 + b.depth < cLine
    omega
  · obtain ⟨ws', k1, k2⟩ := dp_vals (of_eachIs h2)
    obtain ⟨ep, he'⟩ := PyProof.Rows.sortedAll_at s.heap its (List.toArray out)
    have hlen : ws'.length ≤ sizeLine := by
      have e1 := k1.length
      have e2 := hd.length
      omega
    exact ⟨.ref _, upd H (s.heap.objs.size + 1) (.lst ws'), I.laid (t' := s.toks) (fun _ _ => PyProof.Rows.sortedAll_old) (Nat.le_succ _) ⟨hlen, out, ep, k1, he'⟩, rfl, q ws' _ k2 (I.hok.fresh (Nat.le_succ _))⟩

/-! ### a set of a list of ints -/
end
section
variable {P : Program} {w : World} {A : Around} {E : Value → Shared → Prop} {s : Shared}
abbrev newSetOb (w : World) : Obj := { cls := .type "set", dict := none, data := .set #[] 0 (.fresh 0 0 (!w.params.followText "set-order")) }
/-- what stands behind set(..) -/
def SetGot (w : World) (s : Shared) (ns : List Int) (r : Value) (s2 : Shared) : Prop := r = Value.none ∧ ∃ (h' : Heap) (tk c : Nat), s2 = { s with heap := h', toks := tk } ∧
  SetR w h' s.heap.objs.size (fun j => decide (j ∈ ns)) c ∧ c ≤ ns.length ∧ ∀ b o, s.heap.get? b = some o → h'.get? b = some o
/-- set(l) of a list of ints -/
theorem call_setI {l : Addr} {items : Array Value} {ns : List Int} {Q : Value → Shared → Prop} (hh : A.handled = none) (hl : s.heap.IsList l items) (hit : IntsAre items.toList ns) (hb : ns.length + 1 < scanBound)
    (h : ∀ (h' : Heap) (tk c : Nat), SetR w h' s.heap.objs.size (fun j => decide (j ∈ ns)) c → c ≤ ns.length → (∀ b o, s.heap.get? b = some o → h'.get? b = some o) → Q (.ref s.heap.objs.size) { s with heap := h', toks := tk }) :
    wpAny (model P w) A (call (.type "set") [.ref l]) Q E s := by
  have isz : items.size = ns.length := (Array.length_toList (xs := items)).symm.trans (IntsAre.length hit)
  have T := PySem.F.called_set
  obtain ⟨c0, tl0, m0⟩ := T.mro
  have m1 := T.made
  have m2 := T.sub
  have m3 := T.notType
  have m4 := T.canCreate
  have m5 := PySem.F.typeCall_set_1 (.ref l)
  refine wpAny_call (codeAny_of_tree (show wpAny _ _ (callAny (.type "set") _) _ _ _ from wpAny_pure ⟨Code.quiet_builtin _ (by decide +kernel), codeAny_builtin PySem.F.entry_type_call ?_⟩))
  rw [Around.under_plain (weight_type_call_type "set" [.ref l] []) rfl]
  repeat (any_goals (first | assumption | wp_step))
  refine codeAny_mono (L2.code_set_led1 (.ref l) (E := E) (Q₁ := fun ob z => ob = .ref s.heap.objs.size ∧ z = { s with heap := s.heap.push (newSetOb w) }) ⟨rfl, rfl⟩) fun r z hr => ?_
  cases r with
  | error e => exact hr
  | ok fl =>
    cases fl with
    | ret ob =>
      obtain ⟨rfl, rfl⟩ := hr
      have gS : (s.heap.push (newSetOb w)).get? s.heap.objs.size = some (newSetOb w) := Heap.get?_push_size _ rfl
      have tS : Shared.TypeIs { s with heap := s.heap.push (newSetOb w) } (.ref s.heap.objs.size) "set" := ⟨_, gS, rfl⟩
      have b1 := T.init.lookup
      have b2 := T.init.bind (.ref s.heap.objs.size)
      repeat (any_goals (first | assumption | wp_step))
      refine codeAny_mono (codeAny_call_builtin (R := wants (SetGot w s ns) E) T.init.plain PySem.F.entry_set_init (check_set_init_1 tS ?_)) fun r2 z2 hr2 => ?_
      · obtain ⟨⟨lc, ld, lda, lsl⟩, g0, lcl, ln, ldt⟩ := hl
        simp only at lcl ldt
        subst lcl ldt
        have g1 : (s.heap.push (newSetOb w)).get? l = some { cls := .type "list", dict := ld, data := .seq items ln, slots := lsl } := Heap.get?_push_of_some _ g0
        have lst1 : (s.heap.push (newSetOb w)).IsList l items := ⟨_, g1, rfl, ln, rfl⟩
        have x1 := PySem.F.sub_list_set
        have x2 := PySem.F.sub_list_frozenset
        have x3 : (Value.type "list" == Value.type "dict") = false := by decide
        unfold Builtin.«set.__init__» noKeywords Builtin.Frozenset.updateFrom
        generalize hPI : pyIter = PI
        wp_walk
        subst hPI
        refine wpAny_pyIter_list lst1 (wpAny_bind (wpAny_runValue ?_))
        have lS : l < s.heap.objs.size := Heap.lt_size g0
        have sz : (s.heap.push (newSetOb w)).objs.size = s.heap.objs.size + 1 := Heap.size_push ..
        have hI : l ≠ (s.heap.push (newSetOb w)).objs.size := by rw [sz]; exact Nat.ne_of_lt (Nat.lt_succ_of_lt lS)
        have hS : s.heap.objs.size ∉ [(s.heap.push (newSetOb w)).objs.size, l] := by
          rw [sz]
          intro hm
          simp only [List.mem_cons, List.not_mem_nil, or_false] at hm
          rcases hm with e | e
          · exact absurd e (Nat.ne_of_lt (Nat.lt_succ_self _))
          · exact absurd e (Nat.ne_of_gt lS)
        have hv : ∀ (i : Nat) (v : Value), items[i]? = some v → ∃ k t, ns[i]? = some k ∧ v = .int k t := fun i v q => by
          have hi : i < ns.length := by rw [← isz]; exact (Array.getElem?_eq_some_iff.mp q).1
          obtain ⟨t, e⟩ := PyProof.Rows.IntsAre.int_at hit i v (by rw [Array.getElem?_toList]; exact q)
          exact ⟨ns[i], t, List.getElem?_eq_getElem hi, by rw [e, List.getD_eq_getElem?_getD, List.getElem?_eq_getElem hi]; rfl⟩
        have h3 : A.in1.in1.in1.handled = none := by simp [hh]
        refine L2.set_update_ints ((Walks.list h3 _ l hI items).toS) s.heap.objs.size hS ns isz hb hv (items.size - 0) 0 _ (by omega) (Nat.zero_le _)
          ⟨⟨_, Heap.get?_push_size _ rfl, rfl, rfl⟩, lst1.push _⟩ ⟨0, Nat.le_refl 0, L2.setR_new_at (Heap.get?_push_of_some _ gS)⟩ fun z' c' mv hc' hS' => ?_
        obtain ⟨hp', g2, d2, tk2, o2⟩ := z'
        obtain rfl : g2 = s.gens := mv.gens
        obtain rfl : d2 = s.drawn := mv.drawn
        obtain rfl : o2 = s.os := mv.os
        refine wpAny_pure ?_
        rw [isz] at hc'
        refine wpAny_pure ⟨rfl, hp', tk2, c', rfl, hS', hc', fun b o e => ?_⟩
        have lb : b < s.heap.objs.size := Heap.lt_size e
        refine mv.heap b o (fun hm => ?_) (Heap.get?_push_of_some _ (Heap.get?_push_of_some _ e))
        simp only [List.mem_cons, List.not_mem_nil, or_false] at hm
        rw [sz] at hm
        rcases hm with e | e <;> rw [e] at lb
        · exact Nat.lt_irrefl _ lb
        · exact absurd lb (Nat.not_lt.mpr (Nat.le_succ _))
      · cases r2 with
        | error e => exact hr2
        | ok fl2 =>
          cases fl2 with
          | ret r =>
            obtain ⟨rfl, h', tk, c, rfl, k1, k2, k3⟩ := hr2
            repeat (any_goals (first | assumption | wp_step))
            exact h _ _ _ k1 k2 k3
          | _ => exact hr2.elim
    | _ => exact hr.elim
end
section
variable {X : Cx}
def rSetI (K : PySem.W.Frag) (w : World) : List V → Hp → VK → Prop := fun vs H Q => ∃ (a : Addr) (ns : List Int), vs = [V.ref a] ∧ SqL K H a (ns.map V.int) ∧ ns.length < 64 ∧
  ∀ p c, H p = none → c ≤ ns.length → Q (.ref p) (upd H p (SetO w p (fun j => decide (j ∈ ns)) c))
theorem cr_setI (hc : X.calm = true) : CallR X (.type "set") (rSetI X.K X.w) := by
  intro pins s σ H vs us Q I r h
  obtain ⟨a, ns, rfl, hs, h64, q⟩ := h
  obtain ⟨its, rv, pl, _⟩ := I.list hs
  rw [Vals.ref1 r]
  refine call_setI (I.ok.hd hc) pl.isList rv.ints (by unfold scanBound; omega) fun h' tk c k1 k2 k3 => ?_
  exact ⟨.ref _, upd H s.heap.objs.size (SetO X.w s.heap.objs.size (fun j => decide (j ∈ ns)) c), I.laid (t' := tk) k3 (Nat.le_refl _) (setO_new k1), rfl, q _ c (I.hok.fresh (Nat.le_refl _)) k2⟩
theorem insU_mem (x y : Int) : ∀ l : List Int, y ∈ insU x l ↔ y = x ∨ y ∈ l
  | [] => by simp [insU]
  | z :: r => by
    unfold insU
    split
    · simp
    · split
      · rename_i e
        subst e
        simp
      · rw [List.mem_cons, insU_mem x y r, List.mem_cons]
        exact ⟨fun h => by rcases h with h | h | h <;> simp [h], fun h => by rcases h with h | h | h <;> simp [h]⟩
theorem setU_mem (y : Int) : ∀ l : List Int, y ∈ setU l ↔ y ∈ l
  | [] => by simp [setU]
  | x :: r => by
    show y ∈ insU x (setU r) ↔ _
    rw [insU_mem, setU_mem y r, List.mem_cons]
theorem insU_sorted (x : Int) : ∀ l : List Int, l.Pairwise (· < ·) → (insU x l).Pairwise (· < ·)
  | [], _ => by simp [insU]
  | z :: r, h => by
    obtain ⟨h1, h2⟩ := List.pairwise_cons.mp h
    unfold insU
    split
    · rename_i lt
      exact List.pairwise_cons.mpr ⟨fun y hy => by rcases List.mem_cons.mp hy with e | e; rw [e]; exact lt; exact Int.lt_trans lt (h1 y e), h⟩
    · split
      · exact h
      · refine List.pairwise_cons.mpr ⟨fun y hy => ?_, insU_sorted x r h2⟩
        rcases (insU_mem x y r).mp hy with e | e
        · rw [e]; omega
        · exact h1 y e
theorem setU_sorted : ∀ l : List Int, (setU l).Pairwise (· < ·)
  | [] => .nil
  | x :: r => insU_sorted x _ (setU_sorted r)
theorem strict_eq : ∀ {a b : List Int}, a.Pairwise (· < ·) → b.Pairwise (· < ·) → (∀ x, x ∈ a ↔ x ∈ b) → a = b
  | [], [], _, _, _ => rfl
  | [], y :: b, _, _, h => by simpa using (h y).mpr List.mem_cons_self
  | x :: a, [], _, _, h => by simpa using (h x).mp List.mem_cons_self
  | x :: a, y :: b, ha, hb, h => by
    obtain ⟨a1, a2⟩ := List.pairwise_cons.mp ha
    obtain ⟨b1, b2⟩ := List.pairwise_cons.mp hb
    have e : x = y := by
      rcases List.mem_cons.mp ((h x).mp List.mem_cons_self) with e | e
      · exact e
      · rcases List.mem_cons.mp ((h y).mpr List.mem_cons_self) with e' | e'
        · exact e'.symm
        · have := b1 x e
          have := a1 y e'
          omega
    subst e
    rw [strict_eq a2 b2 fun z => ⟨fun hz => ?_, fun hz => ?_⟩]
    · rcases List.mem_cons.mp ((h z).mp (List.mem_cons_of_mem _ hz)) with e | e
      · have := a1 z hz
        omega
      · exact e
    · rcases List.mem_cons.mp ((h z).mpr (List.mem_cons_of_mem _ hz)) with e | e
      · have := b1 z hz
        omega
      · exact e
/-- sorted(set(l)): what the two calls give -/
theorem set_sorted_eq {ns out : List Int} (h1 : out.Pairwise (· < ·)) (h2 : ∀ k : Int, k ∈ out ↔ decide (k ∈ ns) = true) : out = setU ns :=
  strict_eq h1 (setU_sorted ns) fun x => by rw [h2, setU_mem]; simp
end
end Bo

set_option Elab.async false
set_option linter.all false
set_option maxRecDepth 100000
set_option maxHeartbeats 4000000
/-! Bo4: comparisons, built-in functions, by values. -/
namespace Bo
open PySem PySem.Spec PyProof.Rows L2

def cOf : C2 → CmpOp
  | .eq => .Eq
  | .ne => .NotEq
  | .lt => .Lt
  | .le => .LtE
  | .gt => .Gt
  | .ge => .GtE
  | .inn => .In
  | .nin => .NotIn
def rSemC (K : PySem.W.Frag) (sem : Ar → Ar → (Bool → Prop) → Prop) : R2 := fun x y H Q => ∃ (F : Hp) (a b : Ar) (k : Bool → Prop), Same F H ∧ ArR K F H a x ∧ ArR K F H b y ∧ sem a b k ∧ ∀ t, k t → Q (.bl t) H
theorem flat_V {K : PySem.W.Frag} {F : Hp} {v : V} {d : PyData} (h : Dp K F v d) (f : flat d = true) : flatV v = true := by
  cases d with
  | none => cases h; rfl
  | bool _ => cases h; rfl
  | int _ => cases h; rfl
  | str _ => cases h; rfl
  | _ => cases f
theorem flat_all {K : PySem.W.Frag} {F : Hp} : ∀ {vs : List V} {ds : List PyData}, DpAll K F vs ds → ds.all flat = true → vs.all flatV = true
  | _, _, .nil, _ => rfl
  | _, _, .cons a t, f => by
    rw [List.all_cons, Bool.and_eq_true] at f ⊢
    exact ⟨flat_V a f.1, flat_all t f.2⟩
theorem eqV_eqv {K : PySem.W.Frag} {F F' : Hp} {v w : V} {d e : PyData} (h : Dp K F v d) (h' : Dp K F' w e) (f : flat d = true) (f' : flat e = true) : eqV v w = PyData.eqv d e := by
  cases d <;> first
    | (cases f; done)
    | (cases h
       cases e <;> first
         | (cases f'; done)
         | (cases h'; simp [eqV, PyData.eqv]; done))
theorem inV_eqv {K : PySem.W.Frag} {F F' : Hp} {v : V} {d : PyData} (h : Dp K F v d) (f : flat d = true) : ∀ {vs : List V} {ds : List PyData}, DpAll K F' vs ds → ds.all flat = true → inV v vs = ds.any fun z => PyData.eqv z d
  | _, _, .nil, _ => rfl
  | _, _, .cons a t, fs => by
    rw [List.all_cons, Bool.and_eq_true] at fs
    have ih := inV_eqv h f t fs.2
    unfold inV at ih ⊢
    rw [List.any_cons, List.any_cons, ih, eqV_eqv a h fs.1 f]
theorem find_pair {K : PySem.W.Frag} {F : Hp} {key : Key} : ∀ {ws : List (Key × V)} {kvs : List (Key × PyData)}, Paired (fun (a : Key × V) (b : Key × PyData) => a.1 = b.1 ∧ Dp K F a.2 b.2) ws kvs →
    (match valV ws key, look kvs key with
    | some v, some d => Dp K F v d
    | none, none => True
    | _, _ => False)
  | _, _, .nil => by simp [valV, look]
  | _, _, .cons (a := a) (b := b) r t => by
    have ih := find_pair (key := key) t
    by_cases e : a.1 = key
    · have e2 : b.1 = key := r.1.symm.trans e
      simp only [valV, look, List.find?_cons, e, e2, decide_true, Option.map_some]
      exact r.2
    · have e2 : ¬ b.1 = key := fun z => e (r.1.trans z)
      simp only [valV, look, List.find?_cons, e, e2, decide_false] at ih ⊢
      exact ih
theorem any_pair {K : PySem.W.Frag} {F : Hp} {key : Key} {ws : List (Key × V)} {kvs : List (Key × PyData)} (h : Paired (fun (a : Key × V) (b : Key × PyData) => a.1 = b.1 ∧ Dp K F a.2 b.2) ws kvs) :
    (valV ws key).isSome = kvs.any fun kv => decide (kv.1 = key) := by
  rw [← valV_any]
  induction h with
  | nil => rfl
  | cons r t ih => rw [List.any_cons, List.any_cons, ih, r.1]
theorem toK_kV {K : PySem.W.Frag} {F : Hp} {v : V} {d : PyData} {key : Key} (h : Dp K F v d) (e : toK d = some key) : v = kV key := by
  cases d with
  | int i => cases h; cases e; rfl
  | str i => cases h; cases e; rfl
  | _ => cases e
section
variable {X : Cx}
theorem semEq_sound {F H : Hp} {a b : Ar} {x y : V} {k : Bool → Prop} (hs : Same F H) (ha : ArR X.K F H a x) (hb : ArR X.K F H b y) (h : semEq a b k) :
    ∃ d e, Dp X.K H x d ∧ Dp X.K H y e ∧ SeqAt.shaped d = true ∧ SeqAt.shaped e = true ∧ k (PyData.eqv d e) := by
  obtain ⟨d, e1, h⟩ := opt_some h
  obtain ⟨e, e2, ⟨h1, h2⟩, h⟩ := opt_some h
  exact ⟨d, e, ha.dpq e1 hs, hb.dpq e2 hs, h1, h2, h⟩
theorem semLt_cases {f : Int → Int → Bool} {a b : Ar} {k : Bool → Prop} (h : semLt f a b k) : ∃ i j, a = .d (.int i) ∧ b = .d (.int j) ∧ k (f i j) := by
  unfold semLt at h
  split at h
  · exact ⟨_, _, rfl, rfl, h⟩
  · exact h.elim
theorem semIn_cases {a b : Ar} {k : Bool → Prop} (h : semIn a b k) :
    (∃ kvs d key, b = .o (.dic kvs) ∧ a.dat = some d ∧ toK d = some key ∧ k (kvs.any fun kv => decide (kv.1 = key))) ∨
    (∃ d xs, a.dat = some d ∧ b.seq = some xs ∧ ((flat d = true ∧ xs.all flat = true) ∨ (b.lst.isSome = true ∧ SeqAt.shaped d = true ∧ SeqAt.shaped (.list xs) = true)) ∧ k (xs.any fun z => PyData.eqv z d)) := by
  unfold semIn at h
  split at h
  · obtain ⟨d, e1, h⟩ := opt_some h
    obtain ⟨key, e2, h⟩ := opt_some h
    exact .inl ⟨_, d, key, rfl, e1, e2, h⟩
  · obtain ⟨d, e1, h⟩ := opt_some h
    obtain ⟨xs, e2, h⟩ := opt_some h
    exact .inr ⟨d, xs, e1, e2, h⟩
theorem lst_seq {b : Ar} {xs ys : List PyData} (h : b.lst = some ys) (h' : b.seq = some xs) : ys = xs := by
  cases b with
  | d d => cases d with
    | list zs => cases h; cases h'; rfl
    | _ => cases h
  | o o => cases o with
    | lst zs => cases h; cases h'; rfl
    | _ => cases h
theorem in_sound (ng : Bool) (hu : X.A.units + 65 < cLine) {pins : List (Addr × Obj)} {s : Shared} {σ : L2.St} {H F : Hp} {x y : V} {v u : Value} {a b : Ar} {k : Bool → Prop} {Q : VK} (I : Inv X pins σ H s) (rx : RelV x v) (ry : RelV y u)
    (hs : Same F H) (ha : ArR X.K F H a x) (hb : ArR X.K F H b y) (h : semIn a b k) (hq : ∀ t, k t → Q (.bl (if ng then !t else t)) H) :
    wpAny (model X.prog X.w) X.A (compareOp (if ng then .NotIn else .In) v u) (EP X pins σ Q) X.xe s := by
  rcases semIn_cases h with ⟨kvs, d, key, rfl, e1, e2, h⟩ | ⟨d, xs, e1, e2, hc, h⟩
  · obtain ⟨p, ho, rfl, hp, ws, rfl, hw⟩ := hb
    have hd := ha.dpq e1 hs
    have ex := toK_kV hd e2
    subst ex
    cases (show u = Value.ref p from ry)
    have q := hq _ h
    rw [← any_pair hw] at q
    cases ng with
    | false => exact d_in (by omega) I (DGet.k hp) rx fun s' I' => ⟨.bl _, H, I', rfl, q⟩
    | true => exact d_notIn (by omega) I (DGet.k hp) rx fun s' I' => ⟨.bl _, H, I', rfl, q⟩
  · have hd := ha.dpq e1 hs
    have q := hq _ h
    rcases hc with ⟨f1, f2⟩ | ⟨f1, f2, f3⟩
    · obtain ⟨p, ws, rfl, h1, h2⟩ := hb.seqq e2 hs
      rw [← inV_eqv hd f1 h2 f2] at q
      cases ng with
      | false => exact op_in_seq pins s σ H _ _ v u Q I rx ry ⟨p, ws, rfl, h1, flat_V hd f1, flat_all h2 f2, q⟩
      | true => exact op_notIn_seq pins s σ H _ _ v u Q I rx ry ⟨p, ws, rfl, h1, flat_V hd f1, flat_all h2 f2, q⟩
    · obtain ⟨ys, e3⟩ := Option.isSome_iff_exists.mp f1
      have ee := lst_seq e3 e2
      subst ee
      obtain ⟨p, ws, rfl, h1, h2⟩ := hb.lstq e3 hs
      have hl : Dp X.K H (.ref p) (.list ys) := .lst h1 (dpa_mono hs _ _ h2)
      cases ng with
      | false => exact op_inD hu pins s σ H _ _ v u Q I rx ry ⟨d, ys, hd, hl, f2, f3, q⟩
      | true => exact op_notInD hu pins s σ H _ _ v u Q I rx ry ⟨d, ys, hd, hl, f2, f3, q⟩
theorem cmp_sound (hu : X.A.units + 65 < cLine) (c : C2) : OpR X (compareOp (cOf c)) (rSemC X.K (semC c)) := by
  intro pins s σ H x y v u Q I rx ry h
  obtain ⟨F, a, b, k, hs, ha, hb, hsem, hq⟩ := h
  cases c with
  | eq =>
    obtain ⟨d, e, h1, h2, h3, h4, h5⟩ := semEq_sound hs ha hb hsem
    exact op_eqD (by omega) pins s σ H _ _ v u Q I rx ry ⟨d, e, h1, h2, h3, h4, hq _ h5⟩
  | ne =>
    obtain ⟨d, e, h1, h2, h3, h4, h5⟩ := semEq_sound (k := fun c => k (!c)) hs ha hb hsem
    exact op_neD (by omega) pins s σ H _ _ v u Q I rx ry ⟨d, e, h1, h2, h3, h4, hq _ h5⟩
  | lt =>
    obtain ⟨i, j, rfl, rfl, hk⟩ := semLt_cases hsem
    cases ha
    cases hb
    exact op_lt pins s σ H _ _ v u Q I rx ry ⟨i, j, rfl, rfl, hq _ hk⟩
  | le =>
    obtain ⟨i, j, rfl, rfl, hk⟩ := semLt_cases hsem
    cases ha
    cases hb
    exact op_le pins s σ H _ _ v u Q I rx ry ⟨i, j, rfl, rfl, hq _ hk⟩
  | gt =>
    obtain ⟨i, j, rfl, rfl, hk⟩ := semLt_cases hsem
    cases ha
    cases hb
    exact op_gt pins s σ H _ _ v u Q I rx ry ⟨i, j, rfl, rfl, hq _ hk⟩
  | ge =>
    obtain ⟨i, j, rfl, rfl, hk⟩ := semLt_cases hsem
    cases ha
    cases hb
    exact op_ge pins s σ H _ _ v u Q I rx ry ⟨i, j, rfl, rfl, hq _ hk⟩
  | inn => exact in_sound false hu I rx ry hs ha hb hsem fun t ht => hq t ht
  | nin => exact in_sound (k := fun c => k (!c)) true hu I rx ry hs ha hb hsem fun t ht => hq _ ht
end

/-! ### built-in functions -/
theorem maxI_spec (x : Int) : ∀ (r : List Int), r.foldl (fun m y => if y > m then y else m) x ∈ x :: r ∧ ∀ y ∈ x :: r, y ≤ r.foldl (fun m y => if y > m then y else m) x := by
  intro r
  induction r generalizing x with
  | nil => exact ⟨by simp, fun y hy => by simp at hy; simp [hy]⟩
  | cons z r ih =>
    rw [List.foldl_cons]
    by_cases hz : z > x
    · rw [if_pos hz]
      obtain ⟨h1, h2⟩ := ih z
      refine ⟨by rcases List.mem_cons.mp h1 with e | e; · rw [e]; simp
                 · exact List.mem_cons_of_mem _ (List.mem_cons_of_mem _ e), fun y hy => ?_⟩
      rcases List.mem_cons.mp hy with e | e
      · subst e
        have := h2 z List.mem_cons_self
        omega
      · exact h2 y e
    · rw [if_neg hz]
      obtain ⟨h1, h2⟩ := ih x
      refine ⟨by rcases List.mem_cons.mp h1 with e | e; · rw [e]; simp
                 · exact List.mem_cons_of_mem _ (List.mem_cons_of_mem _ e), fun y hy => ?_⟩
      have hx := h2 x List.mem_cons_self
      rcases List.mem_cons.mp hy with e | e
      · subst e; exact hx
      · rcases List.mem_cons.mp e with e | e
        · subst e; omega
        · exact h2 y (List.mem_cons_of_mem _ e)
theorem minI_spec (x : Int) : ∀ (r : List Int), r.foldl (fun m y => if y < m then y else m) x ∈ x :: r ∧ ∀ y ∈ x :: r, r.foldl (fun m y => if y < m then y else m) x ≤ y := by
  intro r
  induction r generalizing x with
  | nil => exact ⟨by simp, fun y hy => by simp at hy; simp [hy]⟩
  | cons z r ih =>
    rw [List.foldl_cons]
    by_cases hz : z < x
    · rw [if_pos hz]
      obtain ⟨h1, h2⟩ := ih z
      refine ⟨by rcases List.mem_cons.mp h1 with e | e; · rw [e]; simp
                 · exact List.mem_cons_of_mem _ (List.mem_cons_of_mem _ e), fun y hy => ?_⟩
      rcases List.mem_cons.mp hy with e | e
      · subst e
        have := h2 z List.mem_cons_self
        omega
      · exact h2 y e
    · rw [if_neg hz]
      obtain ⟨h1, h2⟩ := ih x
      refine ⟨by rcases List.mem_cons.mp h1 with e | e; · rw [e]; simp
                 · exact List.mem_cons_of_mem _ (List.mem_cons_of_mem _ e), fun y hy => ?_⟩
      have hx := h2 x List.mem_cons_self
      rcases List.mem_cons.mp hy with e | e
      · subst e; exact hx
      · rcases List.mem_cons.mp e with e | e
        · subst e; omega
        · exact h2 y (List.mem_cons_of_mem _ e)
theorem maxI_mem {ns : List Int} (h : ns ≠ []) : maxI ns ∈ ns ∧ ∀ y ∈ ns, y ≤ maxI ns := by
  cases ns with
  | nil => exact absurd rfl h
  | cons x r => exact maxI_spec x r
theorem minI_mem {ns : List Int} (h : ns ≠ []) : minI ns ∈ ns ∧ ∀ y ∈ ns, minI ns ≤ y := by
  cases ns with
  | nil => exact absurd rfl h
  | cons x r => exact minI_spec x r
theorem maxI_eq {ns : List Int} {m : Int} (h1 : m ∈ ns) (h2 : ∀ y ∈ ns, y ≤ m) : m = maxI ns := by
  obtain ⟨a, b⟩ := maxI_mem (ns := ns) (List.ne_nil_of_mem h1)
  have := b m h1
  have := h2 _ a
  omega
theorem minI_eq {ns : List Int} {m : Int} (h1 : m ∈ ns) (h2 : ∀ y ∈ ns, m ≤ y) : m = minI ns := by
  obtain ⟨a, b⟩ := minI_mem (ns := ns) (List.ne_nil_of_mem h1)
  have := b m h1
  have := h2 _ a
  omega
theorem insI_perm (x : Int) : ∀ l : List Int, (insI x l).Perm (x :: l)
  | [] => .refl _
  | y :: r => by
    unfold insI
    split
    · exact .refl _
    · exact ((insI_perm x r).cons y).trans (.swap x y r)
theorem sortI_perm : ∀ l : List Int, (sortI l).Perm l
  | [] => .refl _
  | x :: r => by
    unfold sortI
    exact (insI_perm x _).trans ((sortI_perm r).cons x)
theorem insI_sorted (x : Int) : ∀ l : List Int, l.Pairwise (· ≤ ·) → (insI x l).Pairwise (· ≤ ·)
  | [], _ => by simp [insI]
  | y :: r, h => by
    unfold insI
    obtain ⟨h1, h2⟩ := List.pairwise_cons.mp h
    split
    · rename_i hx
      refine List.pairwise_cons.mpr ⟨fun z hz => ?_, h⟩
      rcases List.mem_cons.mp hz with e | e
      · subst e; exact hx
      · have := h1 z e; omega
    · rename_i hx
      refine List.pairwise_cons.mpr ⟨fun z hz => ?_, insI_sorted x r h2⟩
      rcases List.mem_cons.mp ((insI_perm x r).mem_iff.mp hz) with e | e
      · subst e; omega
      · exact h1 z e
theorem sortI_sorted : ∀ l : List Int, (sortI l).Pairwise (· ≤ ·)
  | [] => .nil
  | x :: r => insI_sorted x _ (sortI_sorted r)
theorem sortI_eq {l ns : List Int} (h : l.Perm ns) (h' : l.Pairwise (· ≤ ·)) : l = sortI ns := (h.trans (sortI_perm ns).symm).eq_of_pairwise (fun x y _ _ h1 h2 => Int.le_antisymm h1 h2) h' (sortI_sorted ns)

def fVal : BF → Value
  | .len => .builtin "len"
  | .int => .type "int"
  | .abs => .builtin "abs"
  | .sum => .builtin "sum"
  | .max => .builtin "max"
  | .min => .builtin "min"
  | .max2 => .builtin "max"
  | .min2 => .builtin "min"
  | .sorted => .builtin "sorted"
  | .tuple => .type "tuple"
  | .list => .type "list"
  | .any => .builtin "any"
  | .all => .builtin "all"
  | .isB => .builtin "isinstance"
  | .isI => .builtin "isinstance"
  | .isS => .builtin "isinstance"
  | .isT => .builtin "isinstance"
  | _ => .none
def isRg : BF → Option Nat
  | .listRng1 => some 1
  | .listRng2 => some 2
  | .sortedSet => some 1
  | _ => none
def isTy : BF → Option String
  | .isB => some "bool"
  | .isI => some "int"
  | .isS => some "str"
  | .isT => some "tuple"
  | _ => none
def rF (K : PySem.W.Frag) (f : BF) : List V → Hp → VK → Prop := fun vs H Q => ∃ (F : Hp) (as : List Ar) (k : Rs → Prop), Same F H ∧ Paired (ArR K F H) as vs ∧ semF f as k ∧ ∀ v H', Fin K F H k v H' → Q v H'
theorem paired1 {α β : Type} {R : α → β → Prop} {a : α} {vs : List β} (h : Paired R [a] vs) : ∃ v, vs = [v] ∧ R a v := by
  cases h with
  | cons r t => cases t; exact ⟨_, rfl, r⟩
theorem paired2 {α β : Type} {R : α → β → Prop} {a b : α} {vs : List β} (h : Paired R [a, b] vs) : ∃ v w, vs = [v, w] ∧ R a v ∧ R b w := by
  cases h with
  | cons r t =>
    cases t with
    | cons r' t' => cases t'; exact ⟨_, _, rfl, r, r'⟩
def tyOf : PyData → String
  | .none => "NoneType"
  | .bool _ => "bool"
  | .int _ => "int"
  | .str _ => "str"
  | .list _ => "list"
  | .tuple _ => "tuple"
  | .dict _ => "dict"
theorem tyX_of {K : PySem.W.Frag} {H : Hp} {v : V} {d : PyData} (h : Dp K H v d) : TyX K H v (.type (tyOf d)) := by
  cases h with
  | non => exact .base .non
  | bl b => exact .base (.bl b)
  | int i => exact .base (.int i)
  | str x => exact .base (.str x)
  | lst hs ha =>
    rcases hs with (hs | ⟨o, hs⟩) | ⟨o, its, n, hk, hc, hd, _⟩
    · exact .base (.lst hs)
    · exact .base (.frz hs)
    · exact .kList hk hc
  | tup hs ha =>
    rcases hs with (hs | ⟨o, hs⟩) | ⟨o, its, n, hk, hc, _⟩
    · exact .base (.tup hs)
    · exact .fTuple hs
    · exact .kTuple hk hc
section
variable {X : Cx}
theorem max_fold (n : Int) (ns : List Int) : maxI (n :: ns) = ns.foldl max n := by
  show ns.foldl (fun m y => if y > m then y else m) n = ns.foldl max n
  congr 1
  funext m y
  show (if y > m then y else m) = max m y
  rw [Int.max_def]
  split <;> split <;> omega
theorem min_fold (n : Int) (ns : List Int) : minI (n :: ns) = ns.foldl min n := by
  show ns.foldl (fun m y => if y < m then y else m) n = ns.foldl min n
  congr 1
  funext m y
  show (if y < m then y else m) = min m y
  rw [Int.min_def]
  split <;> split <;> omega
theorem cmp_ints (ns : List Int) : CmpAll (ns.map .int) := by
  refine ⟨⟨fun x hx y hy => ?_, fun x hx => ?_⟩, W.shaped_ints ns⟩
  · obtain ⟨i, _, rfl⟩ := List.mem_map.mp hx
    obtain ⟨j, _, rfl⟩ := List.mem_map.mp hy
    rfl
  · obtain ⟨i, _, rfl⟩ := List.mem_map.mp hx
    exact fun z => by cases z
theorem bf_sound (hc : X.calm = true) (hu : X.A.units + 65 < cLine) (f : BF) (hf : isTy f = none) (hr : isRg f = none) : CallR X (fVal f) (rF X.K f) := by
  intro pins s σ H vs us Q I r h
  obtain ⟨F, as, k, hs, ha, hsem, hq⟩ := h
  have fin : ∀ d v, Dp X.K F v d → k (.val d) → Q v H := fun d v hd hk => hq _ _ (Fin.here hs hd hk)
  have ofL : ∀ {a : Ar} {k' : List PyData → Prop}, opt a.lst k' → as = [a] → ∃ p ws xs, vs = [.ref p] ∧ SqL X.K H p ws ∧ DpAll X.K F ws xs ∧ k' xs := fun {a k'} h e => by
    subst e
    obtain ⟨xs, e, h⟩ := opt_some h
    obtain ⟨v, rfl, ha'⟩ := paired1 ha
    obtain ⟨p, ws, rfl, h1, h2⟩ := ArR.lstq ha' e hs
    exact ⟨p, ws, xs, rfl, h1, h2, h⟩
  have ofS : ∀ {a : Ar} {k' : List PyData → Prop}, opt a.seq k' → as = [a] → ∃ p ws xs, vs = [.ref p] ∧ (SqL X.K H p ws ∨ SqT X.K H p ws) ∧ DpAll X.K F ws xs ∧ k' xs := fun {a k'} h e => by
    subst e
    obtain ⟨xs, e, h⟩ := opt_some h
    obtain ⟨v, rfl, ha'⟩ := paired1 ha
    obtain ⟨p, ws, rfl, h1, h2⟩ := ArR.seqq ha' e hs
    exact ⟨p, ws, xs, rfl, h1, h2, h⟩
  unfold semF at hsem
  split at hsem
  · -- len of a text
    obtain ⟨v, rfl, ha'⟩ := paired1 ha
    cases ha'
    exact call_len_str pins s σ H _ us Q I r ⟨_, rfl, by rw [line_eq]; exact hsem.1, fin _ _ (.int _) hsem.2⟩
  · obtain ⟨v, rfl, ha'⟩ := paired1 ha
    obtain ⟨p, ho, rfl, hp, ws, rfl, hw⟩ := ha'
    obtain ⟨u, rfl, ru⟩ := vals1 r
    cases (show u = Value.ref p from ru)
    refine d_len I (.inl hp) fun t s' I' => ⟨.int ws.length, H, I', ⟨t, rfl⟩, ?_⟩
    rw [Paired.length hw]
    exact fin _ _ (.int _) hsem
  · obtain ⟨p, ws, xs, rfl, h1, h2, h⟩ := ofS hsem rfl
    refine call_len_seq pins s σ H _ us Q I r ⟨p, ws, rfl, h1, ?_⟩
    rw [h2.length]
    exact fin _ _ (.int _) h
  · obtain ⟨v, rfl, ha'⟩ := paired1 ha
    cases ha'
    exact call_int1 pins s σ H _ us Q I r (.inl ⟨_, rfl, fin _ _ (.int _) hsem⟩)
  · obtain ⟨v, rfl, ha'⟩ := paired1 ha
    cases ha'
    exact call_int1 pins s σ H _ us Q I r (.inr ⟨_, rfl, fin _ _ (.int _) hsem⟩)
  · obtain ⟨v, rfl, ha'⟩ := paired1 ha
    cases ha'
    exact call_abs pins s σ H _ us Q I r ⟨_, rfl, fin _ _ (.int _) hsem⟩
  · obtain ⟨p, ws, xs, rfl, h1, h2, h⟩ := ofS hsem rfl
    obtain ⟨ns, e, h'⟩ := opt_some h
    obtain ⟨rfl, rfl⟩ := h2.ints e
    rcases h1 with h1 | h1
    · exact cr_sum hc pins s σ H _ us Q I r ⟨p, ns, rfl, h1, fin _ _ (.int _) h'⟩
    · exact cr_sumT hc pins s σ H _ us Q I r ⟨p, ns, rfl, h1, fin _ _ (.int _) h'⟩
  · obtain ⟨p, ws, xs, rfl, h1, h2, h⟩ := ofS hsem rfl
    split at h
    · rename_i ns e
      obtain ⟨hn, h'⟩ := h
      obtain ⟨rfl, rfl⟩ := h2.ints e
      rcases h1 with h1 | h1
      · refine cr_max hc pins s σ H _ us Q I r ⟨p, ns, rfl, h1, List.length_pos_iff.mpr hn, fun m m1 m2 => ?_⟩
        rw [maxI_eq m1 m2]
        exact fin _ _ (.int _) h'
      · cases ns with
        | nil => exact absurd rfl hn
        | cons n ns =>
          refine cr_maxD hc hu pins s σ H _ us Q I r ⟨p, _, .int n, ns.map .int, rfl, .inr h1, dpa_mono hs _ _ h2, cmp_ints (n :: ns), fun w i w1 w2 => ?_⟩
          obtain ⟨v, v1, v2⟩ := h2.get w2
          rw [w1] at v1
          cases v1
          rw [W.maxD_ints] at v2
          rw [max_fold] at h'
          exact fin _ _ v2 h'
    · rename_i x r' _
      obtain ⟨hcm, h'⟩ := h
      refine cr_maxD hc hu pins s σ H _ us Q I r ⟨p, ws, x, r', rfl, h1, dpa_mono hs _ _ h2, hcm, fun w i w1 w2 => ?_⟩
      obtain ⟨v, v1, v2⟩ := h2.get w2
      rw [w1] at v1
      cases v1
      exact fin _ _ v2 h'
    · exact h.elim
  · obtain ⟨p, ws, xs, rfl, h1, h2, h⟩ := ofS hsem rfl
    split at h
    · rename_i ns e
      obtain ⟨hn, h'⟩ := h
      obtain ⟨rfl, rfl⟩ := h2.ints e
      rcases h1 with h1 | h1
      · refine cr_min hc pins s σ H _ us Q I r ⟨p, ns, rfl, h1, List.length_pos_iff.mpr hn, fun m m1 m2 => ?_⟩
        rw [minI_eq m1 m2]
        exact fin _ _ (.int _) h'
      · cases ns with
        | nil => exact absurd rfl hn
        | cons n ns =>
          refine cr_minD hc hu pins s σ H _ us Q I r ⟨p, _, .int n, ns.map .int, rfl, .inr h1, dpa_mono hs _ _ h2, cmp_ints (n :: ns), fun w i w1 w2 => ?_⟩
          obtain ⟨v, v1, v2⟩ := h2.get w2
          rw [w1] at v1
          cases v1
          rw [W.minD_ints] at v2
          rw [min_fold] at h'
          exact fin _ _ v2 h'
    · rename_i x r' _
      obtain ⟨hcm, h'⟩ := h
      refine cr_minD hc hu pins s σ H _ us Q I r ⟨p, ws, x, r', rfl, h1, dpa_mono hs _ _ h2, hcm, fun w i w1 w2 => ?_⟩
      obtain ⟨v, v1, v2⟩ := h2.get w2
      rw [w1] at v1
      cases v1
      exact fin _ _ v2 h'
    · exact h.elim
  · obtain ⟨v, w, rfl, ha', hb⟩ := paired2 ha
    cases ha'
    cases hb
    exact call_max2 hc pins s σ H _ us Q I r ⟨_, _, rfl, fin _ _ (.int _) hsem⟩
  · obtain ⟨v, w, rfl, ha', hb⟩ := paired2 ha
    cases ha'
    cases hb
    exact call_min2 hc pins s σ H _ us Q I r ⟨_, _, rfl, fin _ _ (.int _) hsem⟩
  · obtain ⟨p, ws, xs, rfl, h1, h2, h⟩ := ofL hsem rfl
    split at h
    · rename_i ns e
      obtain ⟨rfl, rfl⟩ := h2.ints e
      refine cr_sortedI pins s σ H _ us Q I r ⟨p, ns, rfl, h1, fun ns' q g1 g2 g3 => ?_⟩
      rw [sortI_eq g1 g2]
      exact hq _ _ (Fin.lst g3 (dp_ints _) h)
    · exact cr_srtD hu pins s σ H _ us Q I r ⟨F, p, ws, xs, hs, rfl, h1, h2, h.1, fun ws' q k1 k2 => hq _ _ (Fin.lst k2 k1 h.2)⟩
  · cases hr
  · rename_i a
    obtain ⟨xs, e, h⟩ := opt_some hsem
    obtain ⟨v, rfl, ha'⟩ := paired1 ha
    by_cases hl : ∃ ys, a = .d (.tuple ys)
    · obtain ⟨ys, rfl⟩ := hl
      cases (show some ys = some xs from e)
      have hd : Dp X.K F v (.tuple xs) := ha'
      cases hd with
      | tup h1 h2 => exact call_tuple_of pins s σ H _ us Q I r ⟨_, _, rfl, .inr ⟨same_t hs h1, fin _ _ (.tup h1 h2) h⟩⟩
    · have e' : a.lst = some xs := by
        cases a with
        | d d => cases d with
          | list ys => exact e
          | tuple ys => exact absurd ⟨ys, rfl⟩ hl
          | _ => cases e
        | o o => cases o with
          | lst ys => exact e
          | dic _ => cases e
      obtain ⟨p, ws, rfl, h1, h2⟩ := ArR.lstq ha' e' hs
      exact call_tuple_of pins s σ H _ us Q I r ⟨p, ws, rfl, .inl ⟨h1, fun l hl => hq _ _ (Fin.tup hs hl h2 h)⟩⟩
  · obtain ⟨p, ws, xs, rfl, h1, h2, h⟩ := ofS hsem rfl
    exact call_list_of pins s σ H _ us Q I r ⟨p, ws, rfl, h1, fun l hl => hq _ _ (Fin.lst hl h2 h)⟩
  · cases hr
  · cases hr
  · obtain ⟨p, ws, xs, rfl, h1, h2, h⟩ := ofL hsem rfl
    obtain ⟨ns, e, h'⟩ := opt_some h
    obtain ⟨rfl, rfl⟩ := h2.bools e
    exact cr_any hc pins s σ H _ us Q I r ⟨p, ns, rfl, h1, fin _ _ (.bl _) h'⟩
  · obtain ⟨p, ws, xs, rfl, h1, h2, h⟩ := ofL hsem rfl
    obtain ⟨ns, e, h'⟩ := opt_some h
    obtain ⟨rfl, rfl⟩ := h2.bools e
    exact cr_all hc pins s σ H _ us Q I r ⟨p, ns, rfl, h1, fin _ _ (.bl _) h'⟩
  · cases hf
  · cases hf
  · cases hf
  · cases hf
  · exact hsem.elim

/-! ### methods that change nothing -/
def bmId : BM → String
  | .indexT => "tuple.index"
  | .indexL => "list.index"
  | .countT => "tuple.count"
  | .countL => "list.count"
  | .bitLength => "int.bit_length"
  | .getD => "dict.get"
def bmTy : BM → String
  | .indexT => "tuple"
  | .indexL => "list"
  | .countT => "tuple"
  | .countL => "list"
  | .bitLength => "int"
  | .getD => "dict"
/-- o.m(..): the operand, the arguments -/
def rM (K : PySem.W.Frag) (m : BM) : V → List V → Hp → VK → Prop := fun x vs H Q => ∃ (F : Hp) (a : Ar) (as : List Ar) (k : Rs → Prop), Same F H ∧ ArR K F H a x ∧ Paired (ArR K F H) as vs ∧ semM m a as k ∧ ∀ v H', Fin K F H k v H' → Q v H'
theorem findD_spec {xs : List PyData} {d : PyData} {j : Nat} (h : findD xs d = some j) : ∃ z, xs[j]? = some z ∧ PyData.eqv z d = true ∧ ∀ (m : Nat) (z' : PyData), m < j → xs[m]? = some z' → PyData.eqv z' d = false := by
  unfold findD at h
  obtain ⟨hj, h1, h2⟩ := List.findIdx?_eq_some_iff_getElem.mp h
  refine ⟨xs[j], List.getElem?_eq_getElem hj, h1, fun m z' hm hz => ?_⟩
  have hm' : m < xs.length := by omega
  rw [List.getElem?_eq_getElem hm'] at hz
  cases hz
  simpa using h2 m hm
/-- what a sequence's items give against d -/
theorem seq_items {pins : List (Addr × Obj)} {s : Shared} {σ : L2.St} {H : Hp} {ws : List V} {xs : List PyData} {its : List Value} {y : V} {uy : Value} {d : PyData} (I : Inv X pins σ H s) (hu : X.A.units + 65 < cLine) (hx : DpAll X.K H ws xs) (rv : Vals ws its) (hd : Dp X.K H y d) (ry : RelV y uy) (sh : shpA xs d) :
    its.map (SeqAt.readOf s.heap) = xs ∧ ∀ y, y ∈ its.toArray → SeqAt.EqAt X.A.in1 s y uy (PyData.eqv (SeqAt.readOf s.heap y) d) := by
  obtain ⟨as, h4⟩ := Dp.readsAll I xs _ its hx rv
  obtain ⟨bs, r1⟩ := Dp.reads I d y uy hd ry
  have lay : PyData.canLayAll0 xs = true := SeqAt.canLay_of_shaped sh.1
  exact ⟨SeqAt.readsAll_map xs its as lay h4, SeqAt.items_eqAt (vs := its.toArray) (show ReadsAll s.heap its.toArray.toList xs as from h4) r1 lay (SeqAt.canLay_of_shaped sh.2) (room_in_shaped sh.2 hu)⟩
theorem count_map {α β : Type} (f : α → β) (p : β → Bool) (l : List α) : (l.map f).countP p = l.countP fun x => p (f x) := by
  rw [List.countP_map]; rfl
theorem bm_sound (hu : X.A.units + 65 < cLine) (m : BM) (hm : m ≠ .bitLength ∧ m ≠ .getD) : MtR X (bmId m) (rM X.K m) := by
  intro pins s σ H x vs v us Q I rx rxs h
  obtain ⟨F, a, as, k, hs, ha, has, hsem, hq⟩ := h
  have fin : ∀ d v, Dp X.K F v d → k (.val d) → Q v H := fun d v hd hk => hq _ _ (Fin.here hs hd hk)
  -- one item, at a place
  have at_ : ∀ {its : List Value} {xs : List PyData}, its.map (SeqAt.readOf s.heap) = xs → ∀ (m : Nat) (hm : m < its.toArray.size), ∃ z, xs[m]? = some z ∧ SeqAt.readOf s.heap its.toArray[m] = z := fun {its xs} e m hm => by
    subst e
    have hm' : m < its.length := by simpa using hm
    exact ⟨_, by rw [List.getElem?_map, List.getElem?_eq_getElem hm']; rfl, by simp⟩
  unfold semM at hsem
  split at hsem
  · exact absurd rfl hm.2
  · rename_i xs d
    obtain ⟨y, rfl, hy⟩ := paired1 has
    obtain ⟨sh, hsem⟩ := hsem
    obtain ⟨j, hj, hk⟩ := opt_some hsem
    obtain ⟨z, z1, z2, z3⟩ := findD_spec hj
    cases ha with
    | tup h1 h2 =>
      cases rx
      obtain ⟨uy, rfl, ry⟩ := vals1 rxs
      obtain ⟨its, rv, ⟨⟨cls, dd, dt, sl⟩, ho, hc, n, hdt⟩, hz⟩ := I.tuple (same_t hs h1)
      simp only at hc hdt
      subst hc hdt
      obtain ⟨em, he⟩ := seq_items I hu (dpa_mono hs _ _ h2) rv (dp_mono hs _ _ hy) ry sh
      have hjl : j < its.toArray.size := by
        have q := (List.getElem?_eq_some_iff.mp z1).1
        rw [← em, List.length_map] at q
        simpa using q
      refine call_meets PySem.F.slot_tuple_index ⟨_, ho, rfl⟩ PySem.F.entry_tuple_index (PySem.F.args_tuple_index_2 _ _) (TI.tuple_indexAt _ its.toArray n dd sl uy (fun u => PyData.eqv (SeqAt.readOf s.heap u) d) j hjl ?_ ?_)
        ⟨ho, he, ⟨.int (j : Nat), H, I.tok _, ⟨_, rfl⟩, fin _ _ (.int _) hk⟩⟩
      · obtain ⟨w, w1, w2⟩ := at_ em j hjl
        rw [w1] at z1
        cases z1
        show PyData.eqv (SeqAt.readOf s.heap its.toArray[j]) d = true
        rw [w2]; exact z2
      · intro i hi hij
        obtain ⟨w, w1, w2⟩ := at_ em i hi
        show PyData.eqv (SeqAt.readOf s.heap its.toArray[i]) d = false
        rw [w2]; exact z3 i w hij w1
  · rename_i a d
    obtain ⟨y, rfl, hy⟩ := paired1 has
    obtain ⟨xs, e, hsem⟩ := opt_some hsem
    obtain ⟨sh, hsem⟩ := hsem
    obtain ⟨j, hj, hk⟩ := opt_some hsem
    obtain ⟨z, z1, z2, z3⟩ := findD_spec hj
    obtain ⟨p, ws, rfl, h1, h2⟩ := ArR.lstq ha e hs
    exact mt_indexD hu pins s σ H _ _ v us Q I rx rxs ⟨p, y, d, xs, j, z, rfl, rfl, .lst h1 (dpa_mono hs _ _ h2), dp_mono hs _ _ hy, sh.1, sh.2, z1, z2, z3, fin _ _ (.int _) hk⟩
  · rename_i xs d
    obtain ⟨y, rfl, hy⟩ := paired1 has
    obtain ⟨sh, hk⟩ := hsem
    cases ha with
    | tup h1 h2 =>
      cases rx
      obtain ⟨uy, rfl, ry⟩ := vals1 rxs
      obtain ⟨its, rv, ⟨⟨cls, dd, dt, sl⟩, ho, hc, n, hdt⟩, hz⟩ := I.tuple (same_t hs h1)
      simp only at hc hdt
      subst hc hdt
      obtain ⟨em, he⟩ := seq_items I hu (dpa_mono hs _ _ h2) rv (dp_mono hs _ _ hy) ry sh
      refine call_meets PySem.F.slot_tuple_count ⟨_, ho, rfl⟩ PySem.F.entry_tuple_count (PySem.F.args_tuple_count_2 _ _) (SeqAt.tuple_countAt _ its.toArray n dd sl uy (fun u => PyData.eqv (SeqAt.readOf s.heap u) d)) ⟨ho, he, ?_⟩
      rw [← em, count_map] at hk
      exact ⟨.int _, H, I.tok _, ⟨_, rfl⟩, fin _ _ (.int _) hk⟩
  · rename_i a d
    obtain ⟨y, rfl, hy⟩ := paired1 has
    obtain ⟨xs, e, hsem⟩ := opt_some hsem
    obtain ⟨sh, hk⟩ := hsem
    obtain ⟨p, ws, rfl, h1, h2⟩ := ArR.lstq ha e hs
    cases rx
    obtain ⟨uy, rfl, ry⟩ := vals1 rxs
    obtain ⟨its, rv, ⟨⟨cls, dd, dt, sl⟩, n, ho, hc, hdn, hdt⟩, hz⟩ := I.list h1
    simp only at hc hdt
    subst hc hdt
    obtain ⟨em, he⟩ := seq_items I hu (dpa_mono hs _ _ h2) rv (dp_mono hs _ _ hy) ry sh
    refine call_meets PySem.F.slot_list_count ⟨_, ho, rfl⟩ PySem.F.entry_list_count (PySem.F.args_list_count_2 _ _) (SeqAt.list_countAt _ its.toArray n dd sl uy (fun u => PyData.eqv (SeqAt.readOf s.heap u) d)) ⟨ho, he, ?_⟩
    rw [← em, count_map] at hk
    exact ⟨.int _, H, I.tok _, ⟨_, rfl⟩, fin _ _ (.int _) hk⟩
  · exact hsem.elim
end
end Bo

set_option Elab.async false
set_option linter.all false
set_option maxRecDepth 100000
set_option maxHeartbeats 4000000
/-! Bo5: the judgements by tree; constructs one by one. -/
namespace Bo
open PySem PySem.Spec PyProof.Rows L2

/-! ### the weakest readings -/
def tOf (X : Cx) (e : Expr) : TE := fun σ H Q => ∀ pins s, Inv X pins σ H s → wpAny (model X.prog X.w) X.A (eval e X.env) (EP X pins σ Q) X.xe s
theorem pe_of {X : Cx} {e : Expr} : PE X e (tOf X e) := ⟨fun pins s σ H Q I h => h pins s I⟩
theorem of_pe {X : Cx} {e : Expr} {t : TE} (h : PE X e t) {σ H Q} (q : t σ H Q) : tOf X e σ H Q := fun pins s I => h.run pins s σ H Q I q
theorem tOf_mono {X : Cx} {e : Expr} {σ H} {Q Q' : VK} (h : tOf X e σ H Q) (hQ : ∀ v H', Q v H' → Q' v H') : tOf X e σ H Q' := fun pins s I =>
  thn (h pins s I) fun u s' ⟨v, H', I', r, q⟩ => ⟨v, H', I', r, hQ v H' q⟩
def tTOf (X : Cx) (e : Expr) : TT := fun σ H Q => ∀ pins s, Inv X pins σ H s → wpAny (model X.prog X.w) X.A (isTrue e X.env (eval e X.env)) (TP X pins σ Q) X.xe s
theorem pt_of {X : Cx} {e : Expr} : PT X e (tTOf X e) := ⟨fun pins s σ H Q I h => h pins s I⟩
theorem of_pt {X : Cx} {e : Expr} {t : TT} (h : PT X e t) {σ H Q} (q : t σ H Q) : tTOf X e σ H Q := fun pins s I => h.run pins s σ H Q I q
theorem tTOf_mono {X : Cx} {e : Expr} {σ H} {Q Q' : Bool → Hp → Prop} (h : tTOf X e σ H Q) (hQ : ∀ v H', Q v H' → Q' v H') : tTOf X e σ H Q' := fun pins s I =>
  thn (h pins s I) fun u s' ⟨H', I', q⟩ => ⟨H', I', hQ _ H' q⟩
def tWOf (X : Cx) (e : Expr) : TT := fun σ H Q => ∀ whole pins s, Inv X pins σ H s → wpAny (model X.prog X.w) X.A (isTrue e X.env whole) (TP X pins σ Q) X.xe s
theorem pw_of {X : Cx} {e : Expr} : PW X e (tWOf X e) := ⟨fun whole pins s σ H Q I h => h whole pins s I⟩
theorem of_pw {X : Cx} {e : Expr} {t : TT} (h : PW X e t) {σ H Q} (q : t σ H Q) : tWOf X e σ H Q := fun whole pins s I => h.run whole pins s σ H Q I q
def tAOf (X : Cx) (es : List Expr) : TA := fun σ H Q => ∀ (pos : Pos) pins s, Inv X pins σ H s → wpAny (model X.prog X.w) X.A (spliced (backTo pos (starEach es X.env))) (AP X pins σ Q) X.xe s
theorem pa_of {X : Cx} {es : List Expr} : PA X es (tAOf X es) := ⟨fun pos pins s σ H Q I h => h pos pins s I⟩
theorem of_pa {X : Cx} {es : List Expr} {t : TA} (h : PA X es t) {σ H Q} (q : t σ H Q) : tAOf X es σ H Q := fun pos pins s I => h.run pos pins s σ H Q I q
theorem tAOf_mono {X : Cx} {es : List Expr} {σ H} {Q Q' : List V → Hp → Prop} (h : tAOf X es σ H Q) (hQ : ∀ v H', Q v H' → Q' v H') : tAOf X es σ H Q' := fun pos pins s I =>
  thn (h pos pins s I) fun u s' ⟨v, H', I', r, q⟩ => ⟨v, H', I', r, hQ v H' q⟩
def tIOf (X : Cx) (tg iter : Expr) : TI := fun σ H R => ∀ pins s, Inv X pins σ H s → wpAny (model X.prog X.w) X.A (eval iter X.env) (fun v s1 => wpAny (model X.prog X.w) X.A (pyIter v) (PIE X pins σ tg R) X.xe s1) X.xe s
theorem pi_of {X : Cx} {tg iter : Expr} : PI X tg iter (tIOf X tg iter) := ⟨fun pins s σ H Q I h => h pins s I⟩
theorem of_pi {X : Cx} {tg iter : Expr} {t : TI} (h : PI X tg iter t) {σ H Q} (q : t σ H Q) : tIOf X tg iter σ H Q := fun pins s I => h.run pins s σ H Q I q
def tGOf (X : Cx) (target : Expr) : TG := fun v σ H Q => ∀ pins s u, Inv X pins σ H s → RelV v u → wpAny (model X.prog X.w) X.A (assign target X.env u) (fun _ s' => ∃ σ' H', Inv X pins σ' H' s' ∧ Q σ' H') X.xe s
theorem pg_of {X : Cx} {target : Expr} : PG X target (tGOf X target) := ⟨fun pins s σ H v u Q I r h => h pins s u I r⟩
theorem of_pg {X : Cx} {target : Expr} {t : TG} (h : PG X target t) {v σ H Q} (q : t v σ H Q) : tGOf X target v σ H Q := fun pins s u I r => h.run pins s σ H v u Q I r q
def tSOf (X : Cx) (st : Stmt) : TS := fun D σ H => ∀ pins s, Inv X pins σ H s → wpAny (model X.prog X.w) X.A (exec st X.env) (SP X pins D) X.xe s
theorem ps_of {X : Cx} {st : Stmt} : PS X st (tSOf X st) := ⟨fun pins s σ H D I h => h pins s I⟩
theorem of_ps {X : Cx} {st : Stmt} {t : TS} (h : PS X st t) {D σ H} (q : t D σ H) : tSOf X st D σ H := fun pins s I => h.run pins s σ H D I q
def tSsOf (X : Cx) (st : List Stmt) : TS := fun D σ H => ∀ pins s, Inv X pins σ H s → wpAny (model X.prog X.w) X.A (execs st X.env) (SP X pins D) X.xe s
theorem pss_of {X : Cx} {st : List Stmt} : PSs X st (tSsOf X st) := ⟨fun pins s σ H D I h => h pins s I⟩
theorem of_pss {X : Cx} {st : List Stmt} {t : TS} (h : PSs X st t) {D σ H} (q : t D σ H) : tSsOf X st D σ H := fun pins s I => h.run pins s σ H D I q

/-! ### the judgements -/
abbrev WE := Ev → (Rs → Ev → Prop) → Prop
def RE (X : Cx) (e : Expr) (w : WE) : Prop := ∀ B σ H F G ρ K, Agree X.K B ρ σ H F G → w ρ K →
  tOf X e σ H fun v H' => ∃ F' ρ' r, Same F F' ∧ Keeps ρ ρ' ∧ Agree X.K B ρ' σ H' F' G ∧ ResR X.K ρ' σ H' F' G r v ∧ K r ρ'
def RT (X : Cx) (e : Expr) (w : Ev → (Bool → Ev → Prop) → Prop) : Prop := ∀ B σ H F G ρ K, Agree X.K B ρ σ H F G → w ρ K →
  tTOf X e σ H fun b H' => ∃ F' ρ', Same F F' ∧ Keeps ρ ρ' ∧ Agree X.K B ρ' σ H' F' G ∧ K b ρ'
/-- and, or as a test, whatever its whole is -/
def RW (X : Cx) (e : Expr) (w : Ev → (Bool → Ev → Prop) → Prop) : Prop := ∀ B σ H F G ρ K, Agree X.K B ρ σ H F G → w ρ K →
  tWOf X e σ H fun b H' => ∃ F' ρ', Same F F' ∧ Keeps ρ ρ' ∧ Agree X.K B ρ' σ H' F' G ∧ K b ρ'
/-- new objects among operands lie apart -/
def Sep : List Rs → List V → Prop
  | .obj _ :: rs, v :: vs => (∀ (k : Nat) o, rs[k]? = some (.obj o) → vs[k]? ≠ some v) ∧ Sep rs vs
  | _ :: rs, _ :: vs => Sep rs vs
  | _, _ => True
def ROs (X : Cx) (es : List Expr) (w : Ev → (List Rs → Ev → Prop) → Prop) : Prop := ∀ B σ H F G ρ K, Agree X.K B ρ σ H F G → w ρ K →
  tAOf X es σ H fun vs H' => ∃ F' ρ' rs, Same F F' ∧ Keeps ρ ρ' ∧ Agree X.K B ρ' σ H' F' G ∧ Paired (ResR X.K ρ' σ H' F' G) rs vs ∧ (Sep rs vs ∧ vs.length = es.length) ∧ K rs ρ'
def RFs (X : Cx) (es : List Expr) (w : Ev → (List PyData → Ev → Prop) → Prop) : Prop := ∀ B σ H F G ρ K, Agree X.K B ρ σ H F G → w ρ K →
  tAOf X es σ H fun vs H' => ∃ F' ρ' ds, Same F F' ∧ Keeps ρ ρ' ∧ Agree X.K B ρ' σ H' F' G ∧ DpAll X.K F' vs ds ∧ K ds ρ'
def AgR (K : PySem.W.Frag) (σ : L2.St) (F : Hp) (a : Ag) (v : V) : Prop := match a with
  | .d d => Dp K F v d
  | .s i => σ[i]? = some (some v)
def RAs (X : Cx) (es : List Expr) (w : Ev → (List Ag → Ev → Prop) → Prop) : Prop := ∀ B σ H F G ρ K, Agree X.K B ρ σ H F G → w ρ K →
  tAOf X es σ H fun vs H' => ∃ F' ρ' as, Same F F' ∧ Keeps ρ ρ' ∧ Agree X.K B ρ' σ H' F' G ∧ Paired (AgR X.K σ F') as vs ∧ vs.length = es.length ∧ K as ρ'
/-- what walks these items, over a heap that holds F -/
def ItOk (K : PySem.W.Frag) (J : It) (F : Hp) (ds : List PyData) : Prop := ∀ H, Same F H → (∀ i, i < ds.length → J.go i H) ∧ (∀ i, ds.length ≤ i → J.stop i H) ∧
  ∀ i x H', i < ds.length → J.yld i H x H' → H' = H ∧ ∃ d, ds[i]? = some d ∧ Dp K F x d
def RI (X : Cx) (tg iter : Expr) (w : Ev → (List PyData → Ev → Prop) → Prop) : Prop := ∀ B σ H F G ρ K, Agree X.K B ρ σ H F G → w ρ K →
  tIOf X tg iter σ H fun J H' => ∃ F' ρ' ds, Same F F' ∧ Keeps ρ ρ' ∧ Agree X.K B ρ' σ H' F' G ∧ (ItOk X.K J F' ds ∧ ds.length ≤ 16777216) ∧ K ds ρ'
def tgSlots : Tg → List Nat
  | .one i => [i]
  | .tup is => is
def RG (X : Cx) (tg : Tg) (target : Expr) : Prop := ∀ B σ H F G ρ k x d, Agree X.K B ρ σ H F G → Dp X.K F x d → asgT tg d ρ k →
  tGOf X target x σ H fun σ' H' => H' = H ∧ (σ'.length = σ.length ∧ ∀ j, j ∉ tgSlots tg → σ'[j]? = σ[j]?) ∧ ∃ ρ', Agree X.K B ρ' σ' H F G ∧ Keeps ρ ρ' ∧ k ρ'
/-- an own object's new content -/
theorem Agree.write {K : PySem.W.Frag} {B : Nat → Option Addr} {ρ : Ev} {σ : L2.St} {H F G : Hp} {i : Nat} {a : Addr} {o o' : Ob} {ho : HO} {c : Ob → En} (A : Agree K B ρ σ H F G) (h : ρ.get i = c o) (hc : (c = .own) ∨ (c = .bor)) (hv : σ[i]? = some (some (.ref a))) (hn : ObH K F ho o') :
    Agree K B (ρ.set i (c o')) σ (upd H a ho) F G ∧ F a = none ∧ G a = none := by
  have hob : ρ.get i = .own o ∨ ρ.get i = .bor o := by rcases hc with e | e <;> (subst e; first | exact .inl h | exact .inr h)
  have hcn : ∀ z, c z ≠ .no := fun z => by rcases hc with e | e <;> (subst e; exact fun y => by cases y)
  have hcv : ∀ z d, c z ≠ .val d := fun z d => by rcases hc with e | e <;> (subst e; exact fun y => by cases y)
  obtain ⟨a', ho', q1, q2, q3, q4, q5⟩ := A.obj i o hob
  rw [hv] at q1
  cases q1
  have hi : i < ρ.length := get_lt (by rw [h]; exact hcn o)
  have hio : isObj ρ i := isObj_iff.mpr ⟨o, hob⟩
  have oth : ∀ j, isObj (ρ.set i (c o')) j → isObj ρ j := fun j hj => by
    by_cases z : j = i
    · subst z; exact hio
    · exact isObj_congr (by rw [get_set hi, if_neg z]) hj
  refine ⟨⟨fun b o hb => ?_, fun b o hb => ?_, A.fg, by simpa using A.len, fun j d hj => ?_, fun j ob hj => ?_, fun j k b hj hk => A.inj j k b (oth j hj) (oth k hk), fun j b hj => ?_⟩, q2, q3⟩
  · rw [upd_ne (ne_of_none hb q2)]; exact A.fh b o hb
  · rw [upd_ne (ne_of_none hb q3)]; exact A.gh b o hb
  · rw [get_set hi] at hj
    by_cases z : j = i
    · rw [if_pos z] at hj; exact absurd hj (hcv _ _)
    · rw [if_neg z] at hj; exact A.val j d hj
  · by_cases z : j = i
    · subst z
      rw [get_set hi, if_pos rfl] at hj
      have e : o' = ob := by rcases hc with e | e <;> (subst e; rcases hj with y | y <;> cases y; rfl)
      subst e
      exact ⟨a, ho, hv, q2, q3, upd_same, hn⟩
    · rw [get_set hi, if_neg z] at hj
      obtain ⟨b, ho2, z1, z2, z3, z4, z5⟩ := A.obj j ob hj
      have hba : b ≠ a := fun y => by
        subst y
        exact z (A.inj j i b (isObj_iff.mpr ⟨_, hj⟩) hio z1 hv)
      exact ⟨b, ho2, z1, z2, z3, by rw [upd_ne hba]; exact z4, z5⟩
  · obtain ⟨⟨ob, z1⟩, z2⟩ := A.bor j b hj
    by_cases z : j = i
    · subst z
      rw [h] at z1
      have ec : c = .bor := by rcases hc with e | e
                               · subst e; cases z1
                               · exact e
      subst ec
      exact ⟨⟨o', by rw [get_set hi, if_pos rfl]⟩, z2⟩
    · exact ⟨⟨ob, by rw [get_set hi, if_neg z]; exact z1⟩, z2⟩
/-- a value into a slot -/
theorem setV_not {ρ : Ev} {i : Nat} {e : En} {k : Ev → Prop} (h : setV ρ i e k) : (∀ o, ρ.get i ≠ .bor o) ∧ k (ρ.set i e) := by
  unfold setV at h
  split at h
  · exact h.elim
  · rename_i hn
    exact ⟨fun o z => hn o z, h⟩
theorem Agree.setVal {K : PySem.W.Frag} {B : Nat → Option Addr} {ρ : Ev} {σ : L2.St} {H F G : Hp} {i : Nat} {x : V} {d : PyData} (A : Agree K B ρ σ H F G) (hb : ∀ o, ρ.get i ≠ .bor o) (hd : Dp K F x d) (hi : i < σ.length) :
    Agree K B (ρ.set i (.val d)) (σ.set i (some x)) H F G := by
  have hi' : i < ρ.length := by rw [A.len]; exact hi
  have sg : ∀ j, (σ.set i (some x))[j]? = if j = i then some (some x) else σ[j]? := fun j => by
    rw [List.getElem?_set]
    by_cases z : i = j
    · subst z; simp [hi]
    · have z' : ¬ j = i := fun y => z y.symm
      simp [z, z']
  have oth : ∀ j, isObj (ρ.set i (.val d)) j → isObj ρ j ∧ j ≠ i := fun j hj => by
    by_cases z : j = i
    · subst z
      unfold isObj at hj
      rw [get_set hi', if_pos rfl] at hj
      exact hj.elim
    · exact ⟨isObj_congr (by rw [get_set hi', if_neg z]) hj, z⟩
  refine ⟨A.fh, A.gh, A.fg, by simpa using A.len, fun j d' hj => ?_, fun j o hj => ?_, fun j k b hj hk h1 h2 => ?_, fun j b hj => ?_⟩
  · rw [get_set hi'] at hj
    rw [sg]
    by_cases z : j = i
    · rw [if_pos z] at hj ⊢
      cases hj
      exact ⟨x, rfl, hd⟩
    · rw [if_neg z] at hj ⊢
      exact A.val j d' hj
  · obtain ⟨ob, z⟩ := oth j (isObj_iff.mpr ⟨o, hj⟩)
    rw [get_set hi', if_neg z] at hj
    rw [sg, if_neg z]
    exact A.obj j o hj
  · obtain ⟨o1, z1⟩ := oth j hj
    obtain ⟨o2, z2⟩ := oth k hk
    rw [sg, if_neg z1] at h1
    rw [sg, if_neg z2] at h2
    exact A.inj j k b o1 o2 h1 h2
  · obtain ⟨⟨o, z1⟩, z2⟩ := A.bor j b hj
    have z : j ≠ i := fun y => by subst y; exact hb o z1
    exact ⟨⟨o, by rw [get_set hi', if_neg z]; exact z1⟩, by rw [sg, if_neg z]; exact z2⟩
/-- a new object into a slot -/
theorem Agree.setObj {K : PySem.W.Frag} {B : Nat → Option Addr} {ρ : Ev} {σ : L2.St} {H F G : Hp} {i : Nat} {x : V} {o : Ob} (A : Agree K B ρ σ H F G) (hb : ∀ o, ρ.get i ≠ .bor o) (hd : ResR K ρ σ H F G (.obj o) x) (hi : i < σ.length) :
    Agree K B (ρ.set i (.own o)) (σ.set i (some x)) H F G := by
  obtain ⟨a, ho, rfl, r1, r2, r3, r4, r5⟩ := hd
  have hi' : i < ρ.length := by rw [A.len]; exact hi
  have sg : ∀ j, (σ.set i (some (V.ref a)))[j]? = if j = i then some (some (.ref a)) else σ[j]? := fun j => by
    rw [List.getElem?_set]
    by_cases z : i = j
    · subst z; simp [hi]
    · have z' : ¬ j = i := fun y => z y.symm
      simp [z, z']
  have oth : ∀ j, j ≠ i → isObj (ρ.set i (.own o)) j → isObj ρ j := fun j z hj => isObj_congr (by rw [get_set hi', if_neg z]) hj
  refine ⟨A.fh, A.gh, A.fg, by simpa using A.len, fun j d' hj => ?_, fun j o' hj => ?_, fun j k b hj hk h1 h2 => ?_, fun j b hj => ?_⟩
  · rw [get_set hi'] at hj
    rw [sg]
    by_cases z : j = i
    · rw [if_pos z] at hj; cases hj
    · rw [if_neg z] at hj ⊢
      exact A.val j d' hj
  · rw [get_set hi'] at hj
    rw [sg]
    by_cases z : j = i
    · rw [if_pos z] at hj ⊢
      have e : o = o' := by rcases hj with y | y <;> cases y; rfl
      subst e
      exact ⟨a, ho, rfl, r1, r2, r4, r5⟩
    · rw [if_neg z] at hj ⊢
      exact A.obj j o' hj
  · rw [sg] at h1 h2
    by_cases z1 : j = i
    · rw [if_pos z1] at h1
      cases h1
      by_cases z2 : k = i
      · rw [z1, z2]
      · rw [if_neg z2] at h2
        exact absurd h2 (r3 k (oth k z2 hk))
    · rw [if_neg z1] at h1
      by_cases z2 : k = i
      · rw [if_pos z2] at h2
        cases h2
        exact absurd h1 (r3 j (oth j z1 hj))
      · rw [if_neg z2] at h2
        exact A.inj j k b (oth j z1 hj) (oth k z2 hk) h1 h2
  · obtain ⟨⟨o', z1⟩, z2⟩ := A.bor j b hj
    have z : j ≠ i := fun y => by subst y; exact hb o' z1
    exact ⟨⟨o', by rw [get_set hi', if_neg z]; exact z1⟩, by rw [sg, if_neg z]; exact z2⟩

section
variable {X : Cx}
theorem re_k {e : Expr} {d : PyData} {t : V} (h : PE X e (tC t)) (hd : ∀ F, Dp X.K F t d) : RE X e (fun ρ K => K (.val d) ρ) := fun B σ H F G ρ K A w =>
  of_pe h (show tC t σ H _ from ⟨F, ρ, .val d, Same.refl _, Keeps.refl _, A, hd F, w⟩)
/-- two operands, one behind the other -/
theorem re_two {a b : Expr} {wa wb : WE} (ha : RE X a wa) (hb : RE X b wb) {B σ H F G ρ} {K : Rs → Rs → Ev → Prop} (A : Agree X.K B ρ σ H F G) (w : wa ρ fun x ρ1 => wb ρ1 fun y ρ2 => K x y ρ2) :
    tOf X a σ H fun v H1 => tOf X b σ H1 fun u H2 => ∃ F' ρ' x y, Same F F' ∧ Keeps ρ ρ' ∧ Agree X.K B ρ' σ H2 F' G ∧ ResR X.K ρ' σ H2 F' G x v ∧ ResR X.K ρ' σ H2 F' G y u ∧ K x y ρ' := by
  refine tOf_mono (ha B σ H F G ρ _ A w) fun v H1 ⟨F1, ρ1, x, s1, k1, A1, r1, w1⟩ => ?_
  obtain ⟨G', g1, A1', fin, _⟩ := A1.pend r1
  refine tOf_mono (hb B σ H1 F1 G' ρ1 _ A1' w1) fun u H2 ⟨F2, ρ2, y, s2, k2, A2, r2, w2⟩ => ?_
  obtain ⟨f1, f2⟩ := fin ρ2 H2 F2 s2 k2 A2
  exact ⟨F2, ρ2, x, y, s1.trans s2, k1.trans k2, f2, f1, r2.weakG g1, w2⟩
theorem re_op {a b : Expr} {pos : Pos} {wa wb : WE} (o : O2) (ha : RE X a wa) (hb : RE X b wb) :
    RE X (.BinOp a (opOf o) b pos) (fun ρ K => wa ρ fun x ρ1 => wb ρ1 fun y ρ2 => semO o (res ρ2 x) (res ρ2 y) fun r => K r ρ2) := fun B σ H F G ρ K A w => by
  refine of_pe (pe_op (op_sound o) pe_of pe_of) ?_
  refine tOf_mono (re_two ha hb A w) fun v H1 h1 => tOf_mono h1 fun u H2 ⟨F2, ρ2, x, y, s2, k2, A2, r1, r2, w2⟩ => ?_
  refine ⟨F2, _, _, _, A2.fh, A2.arg r1, A2.arg r2, w2, fun v H' hf => ?_⟩
  obtain ⟨F3, r, s3, A3, r3, q⟩ := A2.fin hf
  exact ⟨F3, ρ2, r, s2.trans s3, k2, A3, r3, q⟩
theorem re_neg {a : Expr} {pos : Pos} {wa : WE} (ha : RE X a wa) : RE X (.UnaryOp .USub a pos) (fun ρ K => wa ρ fun x ρ1 => semNeg (res ρ1 x) fun r => K r ρ1) := fun B σ H F G ρ K A w => by
  refine of_pe (pe_un un_neg pe_of) ?_
  refine tOf_mono (ha B σ H F G ρ _ A w) fun v H1 ⟨F1, ρ1, x, s1, k1, A1, r1, w1⟩ => ?_
  have q := A1.arg r1
  unfold semNeg at w1
  split at w1
  · rename_i e
    rw [e] at q
    cases q
    exact ⟨_, rfl, F1, ρ1, .val (.int _), s1, k1, A1, Dp.int _, w1⟩
  · exact w1.elim
theorem re_cmp {a b : Expr} {pos : Pos} {wa wb : WE} (hu : X.A.units + 65 < cLine) (c : C2) (ha : RE X a wa) (hb : RE X b wb) (hm : behindInMarks (cOf c) b = false) :
    RE X (.Compare a [cOf c] [b] pos) (fun ρ K => wa ρ fun x ρ1 => wb ρ1 fun y ρ2 => semC c (res ρ2 x) (res ρ2 y) fun t => K (vB t) ρ2) := fun B σ H F G ρ K A w => by
  refine of_pe (pe_cmpR (cmp_sound hu c) pe_of pe_of hm) ?_
  refine tOf_mono (re_two ha hb A w) fun v H1 h1 => tOf_mono h1 fun u H2 ⟨F2, ρ2, x, y, s2, k2, A2, r1, r2, w2⟩ => ?_
  exact ⟨F2, _, _, _, A2.fh, A2.arg r1, A2.arg r2, w2, fun t ht => ⟨F2, ρ2, vB t, s2, k2, A2, Dp.bl t, ht⟩⟩
theorem rt_cmp {a b : Expr} {pos : Pos} {wa wb : WE} (hu : X.A.units + 65 < cLine) (c : C2) (ha : RE X a wa) (hb : RE X b wb) (hm : behindInMarks (cOf c) b = false) :
    RT X (.Compare a [cOf c] [b] pos) (fun ρ K => wa ρ fun x ρ1 => wb ρ1 fun y ρ2 => semC c (res ρ2 x) (res ρ2 y) fun t => K t ρ2) := fun B σ H F G ρ K A w => by
  refine of_pt (pt_cmpR (cmp_sound hu c) pe_of pe_of hm) ?_
  refine tOf_mono (re_two ha hb A w) fun v H1 h1 => tOf_mono h1 fun u H2 ⟨F2, ρ2, x, y, s2, k2, A2, r1, r2, w2⟩ => ?_
  exact ⟨F2, _, _, _, A2.fh, A2.arg r1, A2.arg r2, w2, fun t ht => ⟨t, rfl, F2, ρ2, s2, k2, A2, ht⟩⟩
theorem re_chain {a b c : Expr} {wa wb wc : WE} (o o' : C2) (ha : RE X a wa) (hb : RE X b wb) (hc : RE X c wc) {B σ H F G ρ} {K : Bool → Ev → Prop} (A : Agree X.K B ρ σ H F G)
    (w : wa ρ fun x ρ1 => wb ρ1 fun y ρ2 => semC o (res ρ2 x) (res ρ2 y) fun t => if t = true then wc ρ2 fun z ρ3 => semC o' (res ρ3 y) (res ρ3 z) fun u => K u ρ3 else K false ρ2) :
    tChain (rSemC X.K (semC o)) (rSemC X.K (semC o')) (tOf X a) (tOf X b) (tOf X c) σ H fun v H' => ∃ t F' ρ', v = .bl t ∧ Same F F' ∧ Keeps ρ ρ' ∧ Agree X.K B ρ' σ H' F' G ∧ K t ρ' := by
  refine tOf_mono (re_two ha hb A w) fun v H1 h1 => tOf_mono h1 fun u H2 ⟨F2, ρ2, x, y, s2, k2, A2, r1, r2, w2⟩ => ?_
  refine ⟨F2, _, _, _, A2.fh, A2.arg r1, A2.arg r2, w2, fun t ht => ⟨t, rfl, ?_⟩⟩
  cases t with
  | false => exact ⟨false, F2, ρ2, rfl, s2, k2, A2, ht⟩
  | true =>
    rw [if_pos rfl] at ht ⊢
    obtain ⟨G', g1, A2', fin, _⟩ := A2.pend r2
    refine tOf_mono (hc B σ H2 F2 G' ρ2 _ A2' ht) fun z H3 ⟨F3, ρ3, r, s3, k3, A3, r3, w3⟩ => ?_
    obtain ⟨f1, f2⟩ := fin ρ3 H3 F3 s3 k3 A3
    exact ⟨F3, _, _, _, f2.fh, f2.arg f1, f2.arg (r3.weakG g1), w3, fun t ht => ⟨t, F3, ρ3, rfl, s2.trans s3, k2.trans k3, f2, ht⟩⟩
theorem re_ch {a b c : Expr} {pos : Pos} {wa wb wc : WE} (hu : X.A.units + 65 < cLine) (o o' : C2) (ha : RE X a wa) (hb : RE X b wb) (hc : RE X c wc) (hm : lastMarks [cOf o, cOf o'] [b, c] = false) :
    RE X (.Compare a [cOf o, cOf o'] [b, c] pos) (fun ρ K => wa ρ fun x ρ1 => wb ρ1 fun y ρ2 => semC o (res ρ2 x) (res ρ2 y) fun t => if t = true then wc ρ2 fun z ρ3 => semC o' (res ρ3 y) (res ρ3 z) fun u => K (vB u) ρ3 else K (vB false) ρ2) := fun B σ H F G ρ K A w => by
  refine tOf_mono (of_pe (pe_chain (cmp_sound hu o) (cmp_sound hu o') pe_of pe_of pe_of hm) (re_chain (K := fun t => K (vB t)) o o' ha hb hc A w)) fun v H' ⟨t, F', ρ', e, s1, k1, A1, q⟩ => ?_
  subst e
  exact ⟨F', ρ', vB t, s1, k1, A1, Dp.bl t, q⟩
theorem rt_ch {a b c : Expr} {pos : Pos} {wa wb wc : WE} (hu : X.A.units + 65 < cLine) (o o' : C2) (ha : RE X a wa) (hb : RE X b wb) (hc : RE X c wc) (hm : lastMarks [cOf o, cOf o'] [b, c] = false) :
    RT X (.Compare a [cOf o, cOf o'] [b, c] pos) (fun ρ K => wa ρ fun x ρ1 => wb ρ1 fun y ρ2 => semC o (res ρ2 x) (res ρ2 y) fun t => if t = true then wc ρ2 fun z ρ3 => semC o' (res ρ3 y) (res ρ3 z) fun u => K u ρ3 else K false ρ2) := fun B σ H F G ρ K A w => by
  refine of_pt (pt_chain (cmp_sound hu o) (cmp_sound hu o') pe_of pe_of pe_of hm) ?_
  have q := re_chain (K := K) o o' ha hb hc A w
  refine tOf_mono q fun v H1 h1 => tOf_mono h1 fun u H2 ⟨F2, x, y, k, s2, r1, r2, w2, fin⟩ => ?_
  refine ⟨F2, x, y, k, s2, r1, r2, w2, fun t ht => ?_⟩
  obtain ⟨t', e, q⟩ := fin t ht
  refine ⟨t', e, ?_⟩
  cases t' with
  | false =>
    obtain ⟨t'', F', ρ', e', s1, k1, A1, q⟩ := q
    cases e'
    exact ⟨false, rfl, F', ρ', s1, k1, A1, q⟩
  | true =>
    rw [if_pos rfl] at q ⊢
    refine tOf_mono q fun z H3 ⟨F3, x3, y3, k3, s3, r3, r4, w3, fin3⟩ => ⟨F3, x3, y3, k3, s3, r3, r4, w3, fun t ht => ?_⟩
    obtain ⟨t'', F', ρ', e', s1, k1, A1, q⟩ := fin3 t ht
    cases e'
    exact ⟨_, rfl, F', ρ', s1, k1, A1, q⟩
/-- is None, is not None -/
theorem dp_none {K : PySem.W.Frag} {F : Hp} {v : V} {d : PyData} (h : Dp K F v d) : decide (v = .non) = noneB d := by
  cases h <;> simp [noneB]
theorem re_isN {a : Expr} {pos pos' : Pos} {j : Nat} {wa : WE} (ng : Bool) (ha : RE X a wa) :
    RE X (.Compare a [if ng then .IsNot else .Is] [.Constant .none j pos'] pos) (fun ρ K => wa ρ fun x ρ1 => match res ρ1 x with
    | .d d => K (vB (if ng then !noneB d else noneB d)) ρ1
    | .o _ => K (vB ng) ρ1) := fun B σ H F G ρ K A w => by
  have main : ∀ {v : V} {H1 : Hp}, (∃ F' ρ' r, Same F F' ∧ Keeps ρ ρ' ∧ Agree X.K B ρ' σ H1 F' G ∧ ResR X.K ρ' σ H1 F' G r v ∧ (match res ρ' r with
    | .d d => K (vB (if ng then !noneB d else noneB d)) ρ'
    | .o _ => K (vB ng) ρ')) → ∃ F' ρ' r, Same F F' ∧ Keeps ρ ρ' ∧ Agree X.K B ρ' σ H1 F' G ∧ ResR X.K ρ' σ H1 F' G r (.bl (if ng then !decide (v = .non) else decide (v = .non))) ∧ K r ρ' := by
    rintro v H1 ⟨F1, ρ1, x, s1, k1, A1, r1, w1⟩
    have q := A1.arg r1
    cases e : res ρ1 x with
    | d d =>
      rw [e] at w1 q
      have e2 := dp_none q
      rw [e2]
      refine ⟨F1, ρ1, vB _, s1, k1, A1, Dp.bl _, ?_⟩
      cases ng <;> exact w1
    | o o =>
      rw [e] at w1 q
      obtain ⟨p, ho, rfl, _⟩ := q
      have e2 : decide (V.ref p = V.non) = false := by simp
      rw [e2]
      refine ⟨F1, ρ1, vB _, s1, k1, A1, Dp.bl _, ?_⟩
      cases ng <;> exact w1
  cases ng with
  | false =>
    refine of_pe (pe_cmp (pc_isN pe_of) rfl) ?_
    exact tOf_mono (ha B σ H F G ρ _ A w) fun v H1 h1 => main h1
  | true =>
    refine of_pe (pe_cmp (pc_notN pe_of) rfl) ?_
    exact tOf_mono (ha B σ H F G ρ _ A w) fun v H1 h1 => main h1
/-- a value that is a bool, as a test -/
theorem rt_val {e : Expr} {w : WE} (h : RE X e w) (he : ∀ whole, isTrue e X.env whole = (do let v ← whole; standAt e.pos; holding [v] (truthy v))) : RT X e (fun ρ K => w ρ fun r ρ1 => asB r fun b => K b ρ1) := fun B σ H F G ρ K A q => by
  refine of_pt (pt_val (pe_of (X := X) (e := e)) he) ?_
  refine tOf_mono (h B σ H F G ρ _ A q) fun v H1 ⟨F1, ρ1, r, s1, k1, A1, r1, w1⟩ => ?_
  unfold asB at w1
  split at w1
  · cases r1
    exact ⟨_, rfl, F1, ρ1, s1, k1, A1, w1⟩
  · exact w1.elim
/-- a comparison's test from its value's -/
theorem rt_isN {a : Expr} {pos pos' : Pos} {j : Nat} {wa : WE} (ng : Bool) (ha : RE X a wa) :
    RT X (.Compare a [if ng then .IsNot else .Is] [.Constant .none j pos'] pos) (fun ρ K => wa ρ fun x ρ1 => match res ρ1 x with
    | .d d => K (if ng then !noneB d else noneB d) ρ1
    | .o _ => K ng ρ1) := fun B σ H F G ρ K A w => by
  have main : ∀ {v : V} {H1 : Hp}, (∃ F' ρ' r, Same F F' ∧ Keeps ρ ρ' ∧ Agree X.K B ρ' σ H1 F' G ∧ ResR X.K ρ' σ H1 F' G r v ∧ (match res ρ' r with
    | .d d => K (if ng then !noneB d else noneB d) ρ'
    | .o _ => K ng ρ')) → ∃ c, (V.bl (if ng then !decide (v = .non) else decide (v = .non))) = .bl c ∧ ∃ F' ρ', Same F F' ∧ Keeps ρ ρ' ∧ Agree X.K B ρ' σ H1 F' G ∧ K c ρ' := by
    rintro v H1 ⟨F1, ρ1, x, s1, k1, A1, r1, w1⟩
    have q := A1.arg r1
    refine ⟨_, rfl, F1, ρ1, s1, k1, A1, ?_⟩
    cases e : res ρ1 x with
    | d d =>
      rw [e] at w1 q
      rw [dp_none q]
      cases ng <;> exact w1
    | o o =>
      rw [e] at w1 q
      obtain ⟨p, ho, rfl, _⟩ := q
      have e2 : decide (V.ref p = V.non) = false := by simp
      rw [e2]
      cases ng <;> exact w1
  cases ng with
  | false =>
    refine of_pt (pt_cmp (pc_isN pe_of) rfl) ?_
    exact tOf_mono (ha B σ H F G ρ _ A w) fun v H1 h1 => main h1
  | true =>
    refine of_pt (pt_cmp (pc_notN pe_of) rfl) ?_
    exact tOf_mono (ha B σ H F G ρ _ A w) fun v H1 h1 => main h1
theorem asB_true {r : Rs} {k : Bool → Prop} (h : asB r k) : ∃ b, r = .val (.bool b) ∧ k b := by
  unfold asB at h
  split at h
  · exact ⟨_, rfl, h⟩
  · exact h.elim
theorem re_nt {a : Expr} {pos : Pos} {wa : WE} (ha : RE X a wa) : RE X (.UnaryOp .Not a pos) (fun ρ K => wa ρ fun x ρ1 => asB x fun b => K (vB (!b)) ρ1) := fun B σ H F G ρ K A w => by
  refine of_pe (pe_not pe_of) ?_
  refine tOf_mono (ha B σ H F G ρ _ A w) fun v H1 ⟨F1, ρ1, x, s1, k1, A1, r1, w1⟩ => ?_
  obtain ⟨b, rfl, w1⟩ := asB_true w1
  cases r1
  exact ⟨b, rfl, F1, ρ1, vB _, s1, k1, A1, Dp.bl _, w1⟩
theorem rt_nt {a : Expr} {pos : Pos} {wa : Ev → (Bool → Ev → Prop) → Prop} (ha : RT X a wa) : RT X (.UnaryOp .Not a pos) (fun ρ K => wa ρ fun b ρ1 => K (!b) ρ1) := fun B σ H F G ρ K A w => by
  refine of_pt (pt_not pt_of) ?_
  exact ha B σ H F G ρ _ A w
theorem re_ife {c a b : Expr} {pos : Pos} {wc : Ev → (Bool → Ev → Prop) → Prop} {wa wb : WE} (hc : RT X c wc) (ha : RE X a wa) (hb : RE X b wb) : RE X (.IfExp c a b pos) (fun ρ K => wc ρ fun t ρ1 => if t = true then wa ρ1 K else wb ρ1 K) := fun B σ H F G ρ K A w => by
  refine of_pe (pe_ifExp pt_of pe_of pe_of) ?_
  refine tTOf_mono (hc B σ H F G ρ _ A w) fun t H1 ⟨F1, ρ1, s1, k1, A1, w1⟩ => ?_
  cases t with
  | true => exact tOf_mono (ha B σ H1 F1 G ρ1 K A1 w1) fun v H2 ⟨F2, ρ2, r, s2, k2, A2, r2, w2⟩ => ⟨F2, ρ2, r, s1.trans s2, k1.trans k2, A2, r2, w2⟩
  | false => exact tOf_mono (hb B σ H1 F1 G ρ1 K A1 w1) fun v H2 ⟨F2, ρ2, r, s2, k2, A2, r2, w2⟩ => ⟨F2, ρ2, r, s1.trans s2, k1.trans k2, A2, r2, w2⟩
end
end Bo

set_option Elab.async false
set_option linter.all false
set_option maxRecDepth 100000
set_option maxHeartbeats 4000000
/-! Bo6: lists of expressions, displays, subscripts, calls of built-ins. -/
namespace Bo
open PySem PySem.Spec PyProof.Rows L2
section
variable {X : Cx}
theorem ros_nil : ROs X [] (fun ρ K => K [] ρ) := fun B σ H F G ρ K A w =>
  of_pa pa_nil (show tNil σ H _ from ⟨F, ρ, [], Same.refl _, Keeps.refl _, A, .nil, ⟨trivial, rfl⟩, w⟩)
theorem sep_cons {K : PySem.W.Frag} {ρ : Ev} {σ : L2.St} {H F G' : Hp} {r : Rs} {v : V} {rs : List Rs} {vs : List V} (h : Paired (ResR K ρ σ H F G') rs vs) (hr : ∀ o, r = .obj o → ∃ a u, v = .ref a ∧ G' a = some u) (s : Sep rs vs) : Sep (r :: rs) (v :: vs) := by
  cases r with
  | val d => exact s
  | slot i => exact s
  | obj o =>
    obtain ⟨a, u, rfl, ha⟩ := hr o rfl
    refine ⟨?_, s⟩
    clear s
    induction h with
    | nil => intro k o hk; simp at hk
    | cons r1 t ih =>
      intro k o hk
      cases k with
      | zero =>
        have e := Option.some.inj (show some _ = some (Rs.obj o) from hk)
        rw [e] at r1
        obtain ⟨a', ho, e', _, g, _⟩ := r1
        intro z
        have z' : _ = V.ref a := Option.some.inj z
        rw [e'] at z'
        cases z'
        rw [ha] at g
        cases g
      | succ k => exact ih k o hk
theorem ros_cons {e : Expr} {es : List Expr} {w : WE} {ws : Ev → (List Rs → Ev → Prop) → Prop} (h : RE X e w) (hr : ROs X es ws) (hs : starEach (e :: es) X.env = (false, eval e X.env) :: starEach es X.env) :
    ROs X (e :: es) (fun ρ K => w ρ fun r ρ1 => ws ρ1 fun rs ρ2 => K (r :: rs) ρ2) := fun B σ H F G ρ K A q => by
  refine of_pa (pa_cons pe_of pa_of hs) ?_
  refine tOf_mono (h B σ H F G ρ _ A q) fun v H1 ⟨F1, ρ1, r, s1, k1, A1, r1, q1⟩ => ?_
  obtain ⟨G', g1, A1', fin, gob⟩ := A1.pend r1
  refine tAOf_mono (hr B σ H1 F1 G' ρ1 _ A1' q1) fun vs H2 ⟨F2, ρ2, rs, s2, k2, A2, r2, ⟨sp, ln⟩, q2⟩ => ?_
  obtain ⟨f1, f2⟩ := fin ρ2 H2 F2 s2 k2 A2
  exact ⟨F2, ρ2, r :: rs, s1.trans s2, k1.trans k2, f2, .cons f1 (Paired.mapP r2 fun a b z => ResR.weakG z g1), ⟨sep_cons r2 gob sp, by rw [List.length_cons, List.length_cons, ln]⟩, q2⟩
theorem rfs_nil : RFs X [] (fun ρ K => K [] ρ) := fun B σ H F G ρ K A w =>
  of_pa pa_nil (show tNil σ H _ from ⟨F, ρ, [], Same.refl _, Keeps.refl _, A, .nil, w⟩)
theorem rfs_cons {e : Expr} {es : List Expr} {w : WE} {ws : Ev → (List PyData → Ev → Prop) → Prop} (h : RE X e w) (hr : RFs X es ws) (hs : starEach (e :: es) X.env = (false, eval e X.env) :: starEach es X.env) :
    RFs X (e :: es) (fun ρ K => w ρ fun r ρ1 => frz ρ1 r fun d ρ2 => ws ρ2 fun ds ρ3 => K (d :: ds) ρ3) := fun B σ H F G ρ K A q => by
  refine of_pa (pa_cons pe_of pa_of hs) ?_
  refine tOf_mono (h B σ H F G ρ _ A q) fun v H1 ⟨F1, ρ1, r, s1, k1, A1, r1, q1⟩ => ?_
  obtain ⟨F2, ρ2, d, s2, k2, A2, d2, q2⟩ := A1.freeze r1 q1
  refine tAOf_mono (hr B σ H1 F2 G ρ2 _ A2 q2) fun vs H2 ⟨F3, ρ3, ds, s3, k3, A3, d3, q3⟩ => ?_
  exact ⟨F3, ρ3, d :: ds, (s1.trans s2).trans s3, (k1.trans k2).trans k3, A3, .cons (dp_mono s3 _ _ d2) d3, q3⟩
theorem ras_nil : RAs X [] (fun ρ K => K [] ρ) := fun B σ H F G ρ K A w =>
  of_pa pa_nil (show tNil σ H _ from ⟨F, ρ, [], Same.refl _, Keeps.refl _, A, .nil, rfl, w⟩)
theorem AgR.mono {K : PySem.W.Frag} {σ : L2.St} {F F' : Hp} {a : Ag} {v : V} (h : AgR K σ F a v) (s : Same F F') : AgR K σ F' a v := by
  cases a with
  | d d => exact dp_mono s _ _ h
  | s i => exact h
theorem ras_cons {e : Expr} {es : List Expr} {w : WE} {ws : Ev → (List Ag → Ev → Prop) → Prop} (h : RE X e w) (hr : RAs X es ws) (hs : starEach (e :: es) X.env = (false, eval e X.env) :: starEach es X.env) :
    RAs X (e :: es) (fun ρ K => w ρ fun r ρ1 => frz ρ1 r fun d ρ2 => ws ρ2 fun ds ρ3 => K (.d d :: ds) ρ3) := fun B σ H F G ρ K A q => by
  refine of_pa (pa_cons pe_of pa_of hs) ?_
  refine tOf_mono (h B σ H F G ρ _ A q) fun v H1 ⟨F1, ρ1, r, s1, k1, A1, r1, q1⟩ => ?_
  obtain ⟨F2, ρ2, d, s2, k2, A2, d2, q2⟩ := A1.freeze r1 q1
  refine tAOf_mono (hr B σ H1 F2 G ρ2 _ A2 q2) fun vs H2 ⟨F3, ρ3, ds, s3, k3, A3, d3, l3, q3⟩ => ?_
  exact ⟨F3, ρ3, .d d :: ds, (s1.trans s2).trans s3, (k1.trans k2).trans k3, A3, .cons (dp_mono s3 _ _ d2) d3, by rw [List.length_cons, List.length_cons, l3], q3⟩
theorem ras_bor {e : Expr} {es : List Expr} {i : Nat} {ws : Ev → (List Ag → Ev → Prop) → Prop} (h : PE X e (tVar i)) (hr : RAs X es ws) (hs : starEach (e :: es) X.env = (false, eval e X.env) :: starEach es X.env) :
    RAs X (e :: es) (fun ρ K => isObj ρ i ∧ ws ρ fun ds ρ3 => K (.s i :: ds) ρ3) := fun B σ H F G ρ K A q => by
  refine of_pa (pa_cons h pa_of hs) ?_
  obtain ⟨q0, q⟩ := q
  obtain ⟨o, ho⟩ := isObj_iff.mp q0
  obtain ⟨a, hx, z1, _⟩ := A.obj i o ho
  refine ⟨_, z1, ?_⟩
  refine tAOf_mono (hr B σ H F G ρ _ A q) fun vs H2 ⟨F3, ρ3, ds, s3, k3, A3, d3, l3, q3⟩ => ?_
  exact ⟨F3, ρ3, .s i :: ds, s3, k3, A3, .cons z1 d3, by rw [List.length_cons, List.length_cons, l3], q3⟩
theorem re_v {x : Str} {pos : Pos} {i : Nat} (h : PE X (.Name x pos) (tVar i)) : RE X (.Name x pos) (fun ρ K => match ρ.get i with
    | .val d => K (.val d) ρ
    | .own _ => K (.slot i) ρ
    | .bor _ => K (.slot i) ρ
    | .no => False) := fun B σ H F G ρ K A w => by
  refine of_pe h ?_
  have w : (match ρ.get i with
    | .val d => K (.val d) ρ
    | .own _ => K (.slot i) ρ
    | .bor _ => K (.slot i) ρ
    | .no => False) := w
  cases e : ρ.get i with
  | no => rw [e] at w; exact w.elim
  | val d =>
    rw [e] at w
    obtain ⟨v, z1, z2⟩ := A.val i d e
    exact ⟨v, z1, F, ρ, .val d, Same.refl _, Keeps.refl _, A, z2, w⟩
  | own o =>
    rw [e] at w
    obtain ⟨a, hx, z1, _⟩ := A.obj i o (.inl e)
    exact ⟨_, z1, F, ρ, .slot i, Same.refl _, Keeps.refl _, A, ⟨z1, by rw [e]; exact fun y => by cases y⟩, w⟩
  | bor o =>
    rw [e] at w
    obtain ⟨a, hx, z1, _⟩ := A.obj i o (.inr e)
    exact ⟨_, z1, F, ρ, .slot i, Same.refl _, Keeps.refl _, A, ⟨z1, by rw [e]; exact fun y => by cases y⟩, w⟩
theorem re_tup {es : List Expr} {x1} {pos : Pos} {ws : Ev → (List PyData → Ev → Prop) → Prop} (h : RFs X es ws) : RE X (.Tuple es x1 pos) (fun ρ K => ws ρ fun ds ρ1 => ds.length ≤ 16777216 ∧ K (.val (.tuple ds)) ρ1) := fun B σ H F G ρ K A w => by
  refine of_pe (pe_tup pa_of) ?_
  refine tAOf_mono (h B σ H F G ρ _ A w) fun vs H1 ⟨F1, ρ1, ds, s1, k1, A1, d1, hl, q1⟩ => ?_
  refine ⟨by rw [d1.length, line_eq]; exact hl, fun p hp => ?_⟩
  obtain ⟨F2, r, s2, A2, r2, q2⟩ := A1.fin (k := fun r => K r ρ1) (Fin.tup A1.fh hp d1 q1)
  exact ⟨F2, ρ1, r, s1.trans s2, k1, A2, r2, q2⟩
theorem re_lst {es : List Expr} {pos : Pos} {ws : Ev → (List PyData → Ev → Prop) → Prop} (h : RFs X es ws) : RE X (.List es pos) (fun ρ K => ws ρ fun ds ρ1 => ds.length ≤ 16777216 ∧ K (.obj (.lst ds)) ρ1) := fun B σ H F G ρ K A w => by
  refine of_pe (pe_lst pa_of) ?_
  refine tAOf_mono (h B σ H F G ρ _ A w) fun vs H1 ⟨F1, ρ1, ds, s1, k1, A1, d1, hl, q1⟩ => ?_
  refine ⟨by rw [d1.length, line_eq]; exact hl, fun p hp => ?_⟩
  obtain ⟨F2, r, s2, A2, r2, q2⟩ := A1.fin (k := fun r => K r ρ1) (Fin.lst hp d1 q1)
  exact ⟨F2, ρ1, r, s1.trans s2, k1, A2, r2, q2⟩
theorem re_dnew {pos : Pos} : RE X (.Dict [] [] pos) (fun ρ K => K (.obj (.dic [])) ρ) := fun B σ H F G ρ K A w => by
  refine of_pe pe_dnewK fun p hp => ?_
  obtain ⟨F2, r, s2, A2, r2, q2⟩ := A.fin (k := fun r => K r ρ) (v := .ref p) (H' := upd H p (.dK [])) ⟨fun b o hb => by rw [upd_ne (ne_of_none hb hp)]; exact hb, .obj (.dic []), w, p, .dK [], rfl, hp, upd_same, [], rfl, .nil⟩
  exact ⟨F2, ρ, r, s2, Keeps.refl _, A2, r2, q2⟩

/-! ### subscripts -/
def rIxD : R2 := fun x y H Q => ∃ a v, x = .ref a ∧ DGet H a y (some v) ∧ Q v H
theorem ix_dict (hu : X.A.units + 1 < cLine) : IxR X rIxD := by
  intro value slice pins s σ H x y v u Q I rx ry h hs
  obtain ⟨a, z, rfl, g, q⟩ := h
  cases rx
  exact tail_any (dict_typeIs I g) PySem.F.slot_dict_getitem.lookup (d_getItem hu I g ry fun w' s3 I3 rw' => ⟨z, H, I3, rw', q⟩) hs
theorem at_get {K : PySem.W.Frag} {F : Hp} {vs : List V} {ds : List PyData} {i : Int} {d : PyData} (h : DpAll K F vs ds) (e : atI ds i = some d) : ∃ v, atI vs i = some v ∧ Dp K F v d := by
  unfold atI at e ⊢
  rw [h.length]
  cases q : ixN ds.length i with
  | none => rw [q] at e; cases e
  | some j =>
    rw [q] at e
    exact h.get (i := j) e
def rIxA (K : PySem.W.Frag) : R2 := fun x y H Q => ∃ (F : Hp) (a b : Ar) (k : PyData → Prop), Same F H ∧ ArR K F H a x ∧ ArR K F H b y ∧ semIx a b k ∧ ∀ v d, Dp K F v d → k d → Q v H
theorem semIx_cases {a i : Ar} {k : PyData → Prop} (h : semIx a i k) : (∃ kvs d key x, a = .o (.dic kvs) ∧ i.dat = some d ∧ toK d = some key ∧ look kvs key = some x ∧ k x) ∨
    (∃ j xs x, i = .d (.int j) ∧ a.seq = some xs ∧ atI xs j = some x ∧ k x) := by
  unfold semIx at h
  split at h
  · obtain ⟨d, e1, h⟩ := opt_some h
    obtain ⟨key, e2, h⟩ := opt_some h
    obtain ⟨x, e3, h⟩ := opt_some h
    exact .inl ⟨_, d, key, x, rfl, e1, e2, e3, h⟩
  · split at h
    · obtain ⟨xs, e1, h⟩ := opt_some h
      obtain ⟨x, e2, h⟩ := opt_some h
      exact .inr ⟨_, xs, x, rfl, e1, e2, h⟩
    · exact h.elim
theorem ix_sound (hu : X.A.units + 1 < cLine) : IxR X (rIxA X.K) := by
  intro value slice pins s σ H x y v u Q I rx ry h hs
  obtain ⟨F, a, b, k, sf, ha, hb, hsem, hq⟩ := h
  rcases semIx_cases hsem with ⟨kvs, d, key, z, rfl, e1, e2, e3, hk⟩ | ⟨j, xs, z, rfl, e1, e2, hk⟩
  · obtain ⟨p, ho, rfl, hp, ws, rfl, hw⟩ := ha
    have ex := toK_kV (hb.dpq e1 sf) e2
    subst ex
    have fp := find_pair (key := key) hw
    rw [e3] at fp
    cases q : valV ws key with
    | none => rw [q] at fp; exact fp.elim
    | some w =>
      rw [q] at fp
      have g := DGet.k (k := key) hp
      rw [q] at g
      exact ix_dict hu value slice pins s σ H _ _ v u Q I rx ry ⟨p, w, rfl, g, hq _ _ fp hk⟩ hs
  · cases hb
    obtain ⟨p, ws, rfl, h1, h2⟩ := ha.seqq e1 sf
    obtain ⟨w, w1, w2⟩ := at_get h2 e2
    rcases h1 with h1 | h1
    · exact ix_list value slice pins s σ H _ _ v u Q I rx ry ⟨p, ws, j, w, rfl, rfl, h1, w1, hq _ _ w2 hk⟩ hs
    · exact ix_tup value slice pins s σ H _ _ v u Q I rx ry ⟨p, ws, j, w, rfl, rfl, h1, w1, hq _ _ w2 hk⟩ hs
theorem re_ix {a b : Expr} {pos : Pos} {wa wb : WE} (hu : X.A.units + 1 < cLine) (ha : RE X a wa) (hb : RE X b wb) (hp : PlainIx b) :
    RE X (.Subscript a b pos) (fun ρ K => wa ρ fun x ρ1 => wb ρ1 fun y ρ2 => semIx (res ρ2 x) (res ρ2 y) fun d => K (.val d) ρ2) := fun B σ H F G ρ K A w => by
  refine of_pe (pe_ix (ix_sound hu) pe_of pe_of hp) ?_
  refine tOf_mono (re_two ha hb A w) fun v H1 h1 => tOf_mono h1 fun u H2 ⟨F2, ρ2, x, y, s2, k2, A2, r1, r2, w2⟩ => ?_
  exact ⟨F2, _, _, _, A2.fh, A2.arg r1, A2.arg r2, w2, fun v d hd hk => ⟨F2, ρ2, .val d, s2, k2, A2, hd, hk⟩⟩
theorem cut_dp {K : PySem.W.Frag} {F : Hp} {vs : List V} {ds : List PyData} (h : DpAll K F vs ds) (lo hi : Option Int) : DpAll K F (cutV vs lo hi) (cutL ds lo hi) := by
  unfold cutV cutL
  rw [h.length]
  exact (h.drop _).take _
def rSlS (K : PySem.W.Frag) : V → Option Int → Option Int → Hp → VK → Prop := fun x lo hi H Q => ∃ (F : Hp) (a : Ar) (k : Rs → Prop), Same F H ∧ ArR K F H a x ∧ semSl a lo hi k ∧ ∀ v H', Fin K F H k v H' → Q v H'
theorem semSl_cases {a : Ar} {lo hi : Option Int} {k : Rs → Prop} (h : semSl a lo hi k) : (∃ xs, a = .d (.tuple xs) ∧ k (.val (.tuple (cutL xs lo hi)))) ∨ (∃ xs, a.lst = some xs ∧ k (.obj (.lst (cutL xs lo hi)))) := by
  unfold semSl at h
  split at h
  · exact .inl ⟨_, rfl, h⟩
  · obtain ⟨xs, e1, h⟩ := opt_some h
    exact .inr ⟨xs, e1, h⟩
theorem cutL_whole {xs : List PyData} {lo hi : Option Int} (h : HT.sIx xs.length 0 lo = 0 ∧ HT.sIx xs.length xs.length hi = xs.length) : cutL xs lo hi = xs := by
  unfold cutL
  rw [h.1, h.2, List.drop_zero, Nat.sub_zero, List.take_length]
theorem sl_sound : SlR X (rSlS X.K) := by
  intro pins s σ H x v vl vu lo hi sl Q I rx hs pl pu h
  obtain ⟨F, a, k, sf, ha, hsem, hq⟩ := h
  rcases semSl_cases hsem with ⟨xs, rfl, hk⟩ | ⟨xs, e1, hk⟩
  · have hd : Dp X.K F x (.tuple xs) := ha
    cases hd with
    | tup h1 h2 =>
      rename_i p vs
      refine sl_tupA pins s σ H _ v vl vu lo hi sl Q I rx hs pl pu ⟨p, vs, rfl, same_t sf h1, fun z => hq _ _ (Fin.here sf (.tup h1 h2) ?_), fun z q hq' => hq _ _ (Fin.tup sf hq' (cut_dp h2 lo hi) hk)⟩
      rw [h2.length] at z
      rw [cutL_whole z] at hk
      exact hk
  · obtain ⟨p, ws, rfl, h1, h2⟩ := ha.lstq e1 sf
    exact sl_list pins s σ H _ v vl vu lo hi sl Q I rx hs pl pu ⟨p, ws, rfl, h1, fun q hq' => hq _ _ (Fin.lst hq' (cut_dp h2 lo hi) hk)⟩
/-- a part of a slice -/
def RP (X : Cx) (e : Option Expr) (w : Ev → (Option Int → Ev → Prop) → Prop) : Prop := ∀ B σ H F G ρ K, Agree X.K B ρ σ H F G → w ρ K →
  ∃ t : TO, PO X e t ∧ t σ H fun o H' => ∃ F' ρ', Same F F' ∧ Keeps ρ ρ' ∧ Agree X.K B ρ' σ H' F' G ∧ K o ρ'
theorem rp_none : RP X none (fun ρ K => K none ρ) := fun B σ H F G ρ K A w => ⟨_, po_none, F, ρ, Same.refl _, Keeps.refl _, A, w⟩
theorem rp_some {e : Expr} {w : WE} (h : RE X e w) : RP X (some e) (fun ρ K => w ρ fun r ρ1 => match r with
    | .val (.int i) => K (some i) ρ1
    | _ => False) := fun B σ H F G ρ K A q => by
  refine ⟨_, po_some pe_of, ?_⟩
  refine tOf_mono (h B σ H F G ρ _ A q) fun v H1 ⟨F1, ρ1, r, s1, k1, A1, r1, q1⟩ => ?_
  split at q1
  · cases r1
    exact ⟨_, rfl, F1, ρ1, s1, k1, A1, q1⟩
  · exact q1.elim
def tPOf (X : Cx) (e : Option Expr) : TO := fun σ H Q => ∃ t : TO, PO X e t ∧ t σ H Q
theorem po_of {e : Option Expr} : PO X e (tPOf X e) := ⟨fun pins s σ H Q I ⟨t, h, q⟩ => h.run pins s σ H Q I q⟩
theorem tPOf_mono {e : Option Expr} {σ H} {Q Q' : Option Int → Hp → Prop} (h : tPOf X e σ H Q) (hQ : ∀ o H', Q o H' → Q' o H') : tPOf X e σ H Q' := by
  obtain ⟨t, ht, q⟩ := h
  refine ⟨fun σ H Q' => ∃ Q, t σ H Q ∧ ∀ o H', Q o H' → Q' o H', ⟨fun pins s σ H Q' I ⟨Q, q, hQ⟩ => ?_⟩, Q, q, hQ⟩
  exact thn (ht.run pins s σ H Q I q) fun v s' ⟨o, H', I', r, q⟩ => ⟨o, H', I', r, hQ o H' q⟩
theorem re_sl {a : Expr} {lo hi : Option Expr} {pos p2 : Pos} {wa : WE} {wl wh : Ev → (Option Int → Ev → Prop) → Prop} (ha : RE X a wa) (hl : RP X lo wl) (hh : RP X hi wh) :
    RE X (.Subscript a (.Slice lo hi none p2) pos) (fun ρ K => wa ρ fun x ρ1 => wl ρ1 fun l ρ2 => wh ρ2 fun h ρ3 => semSl (res ρ3 x) l h fun r => K r ρ3) := fun B σ H F G ρ K A w => by
  refine of_pe (pe_slice sl_sound pe_of po_of po_of) ?_
  refine tOf_mono (ha B σ H F G ρ _ A w) fun v H1 ⟨F1, ρ1, x, s1, k1, A1, r1, w1⟩ => ?_
  obtain ⟨G', g1, A1', fin, _⟩ := A1.pend r1
  refine tPOf_mono (hl B σ H1 F1 G' ρ1 _ A1' w1) fun l H2 ⟨F2, ρ2, s2, k2, A2, w2⟩ => ?_
  refine tPOf_mono (hh B σ H2 F2 G' ρ2 _ A2 w2) fun h H3 ⟨F3, ρ3, s3, k3, A3, w3⟩ => ?_
  obtain ⟨f1, f2⟩ := fin ρ3 H3 F3 (s2.trans s3) (k2.trans k3) A3
  refine ⟨F3, _, _, f2.fh, f2.arg f1, w3, fun v H' hf => ?_⟩
  obtain ⟨F4, r, s4, A4, r4, q⟩ := f2.fin hf
  exact ⟨F4, ρ3, r, ((s1.trans s2).trans s3).trans s4, (k1.trans k2).trans k3, A4, r4, q⟩

/-! ### calls of built-in functions -/
theorem paired_res {K : PySem.W.Frag} {B : Nat → Option Addr} {ρ : Ev} {σ : L2.St} {H F G : Hp} (A : Agree K B ρ σ H F G) : ∀ {rs : List Rs} {vs : List V}, Paired (ResR K ρ σ H F G) rs vs → Paired (ArR K F H) (rs.map (res ρ)) vs
  | _, _, .nil => .nil
  | _, _, .cons r t => .cons (A.arg r) (paired_res A t)
theorem re_bf {e : Expr} {es : List Expr} {x : Str} {p pos : Pos} {t : TA} {f : BF} {ws : Ev → (List Rs → Ev → Prop) → Prop} (hc : X.calm = true) (hf : isTy f = none) (hr : isRg f = none) (hu : X.A.units + 65 < cLine) (h : ROs X (e :: es) ws)
    (hp : ∀ (r : List V → Hp → VK → Prop), CallR X (fVal f) r → PE X (.Call (.Name x p) (e :: es) [] pos) (tCB r (tAOf X (e :: es)))) :
    RE X (.Call (.Name x p) (e :: es) [] pos) (fun ρ K => ws ρ fun rs ρ1 => semF f (rs.map (res ρ1)) fun r => K r ρ1) := fun B σ H F G ρ K A w => by
  refine of_pe (hp _ (bf_sound hc hu f hf hr)) ?_
  refine tAOf_mono (h B σ H F G ρ _ A w) fun vs H1 ⟨F1, ρ1, rs, s1, k1, A1, r1, _, w1⟩ => ?_
  refine ⟨F1, _, _, A1.fh, paired_res A1 r1, w1, fun v H' hfin => ?_⟩
  obtain ⟨F2, r, s2, A2, r2, q⟩ := A1.fin hfin
  exact ⟨F2, ρ1, r, s1.trans s2, k1, A2, r2, q⟩
/-- isinstance(e, T) -/
theorem isTy_sem {f : BF} {T : String} (hf : isTy f = some T) {d : PyData} {k : Rs → Prop} (h : semF f [.d d] k) : ∃ b, kitB (tyOf d) T = some b ∧ k (vB b) := by
  cases f <;> (try (cases hf; done)) <;> (cases hf; unfold semF at h)
  · exact ⟨isBd d, by cases d <;> (simp only [tyOf, isBd]; decide +kernel), h⟩
  · exact ⟨isId d, by cases d <;> (simp only [tyOf, isId]; decide +kernel), h⟩
  · exact ⟨isSd d, by cases d <;> (simp only [tyOf, isSd]; decide +kernel), h⟩
  · exact ⟨isTd d, by cases d <;> (simp only [tyOf, isTd]; decide +kernel), h⟩
theorem semF_ty {f : BF} {T : String} (hf : isTy f = some T) {as : List Ar} {k : Rs → Prop} (h : semF f as k) : ∃ d, as = [.d d] := by
  cases f <;> (try (cases hf; done)) <;> (unfold semF at h; split at h <;> first | exact ⟨_, rfl⟩ | exact h.elim | (rename_i z; cases z; done) | skip)
theorem re_isi {e : Expr} {c : Str} {x : Str} {p p2 pos : Pos} {f : BF} {T : String} {w : WE} (hf : isTy f = some T) (h : RE X e w) (hT : PE X (.Name c p2) (tC (.ty T))) (hs : starEach [e, .Name c p2] X.env = (false, eval e X.env) :: starEach [.Name c p2] X.env)
    (hp : ∀ (r : List V → Hp → VK → Prop) (t : TA), CallR X (.builtin "isinstance") r → PA X [e, .Name c p2] t → PE X (.Call (.Name x p) [e, .Name c p2] [] pos) (tCB r t)) :
    RE X (.Call (.Name x p) [e, .Name c p2] [] pos) (fun ρ K => w ρ fun r ρ1 => semF f [res ρ1 r] fun r => K r ρ1) := fun B σ H F G ρ K A q => by
  refine of_pe (hp _ _ call_isi (pa_cons pe_of (pa_cons hT pa_nil) hs)) ?_
  refine tOf_mono (h B σ H F G ρ _ A q) fun v H1 ⟨F1, ρ1, r, s1, k1, A1, r1, q1⟩ => ?_
  obtain ⟨d, hd⟩ := semF_ty hf q1
  have e1 : res ρ1 r = .d d := List.cons.inj hd |>.1
  have ha := A1.arg r1
  rw [e1] at ha q1
  obtain ⟨b, kb, hk⟩ := isTy_sem hf q1
  exact ⟨v, .ty T, _, _, b, rfl, .ty T, tyX_of (dp_mono A1.fh _ _ ha), kit_ty kb, F1, ρ1, vB b, s1, k1, A1, Dp.bl b, hk⟩
/-- list(range(..)) -/
theorem rgV_dp {K : PySem.W.Frag} {F : Hp} (a b : Int) : DpAll K F (rgV a b) (rngL a b) := by
  unfold rgV rngL
  generalize List.range (b - a).toNat = l
  induction l with
  | nil => exact .nil
  | cons x l ih => exact .cons (.int _) ih
theorem semF_rg1 {a : Ar} {k : Rs → Prop} (h : semF .listRng1 [a] k) : ∃ j, a = .d (.int j) ∧ (Small j ∧ j ≤ 16777216) ∧ k (.obj (.lst (rngL 0 j))) := by
  cases a with
  | d d => cases d <;> first | exact ⟨_, rfl, h⟩ | exact (show False from h).elim
  | o o => exact (show False from h).elim
theorem semF_rg2 {a b : Ar} {k : Rs → Prop} (h : semF .listRng2 [a, b] k) : ∃ i j, a = .d (.int i) ∧ b = .d (.int j) ∧ (Small i ∧ Small j ∧ j - i ≤ 16777216) ∧ k (.obj (.lst (rngL i j))) := by
  cases a with
  | d d =>
    cases b with
    | d e => cases d <;> first | (exact (show False from h).elim) | (cases e <;> first | exact ⟨_, _, rfl, rfl, h⟩ | exact (show False from h).elim)
    | o o => cases d <;> exact (show False from h).elim
  | o o => exact (show False from h).elim
theorem semF_set {a : Ar} {k : Rs → Prop} (h : semF .sortedSet [a] k) : ∃ xs ns, a.lst = some xs ∧ allI xs = some ns ∧ ns.length < 64 ∧ k (.obj (.lst ((setU ns).map .int))) := by
  have h : opt a.lst fun xs => opt (allI xs) fun ns => ns.length < 64 ∧ k (.obj (.lst ((setU ns).map .int))) := by
    cases a with
    | d d => cases d <;> first | exact h | exact (show False from h).elim
    | o o => cases o <;> first | exact h | exact (show False from h).elim
  obtain ⟨xs, e1, h⟩ := opt_some h
  obtain ⟨ns, e2, h⟩ := opt_some h
  exact ⟨xs, ns, e1, e2, h⟩
theorem rgV_fin {X : Cx} {B : Nat → Option Addr} {σ : L2.St} {H F G : Hp} {ρ : Ev} {K : Rs → Ev → Prop} {i j : Int} {q : Addr} (A : Agree X.K B ρ σ H F G) (hq : H q = none) (hk : K (.obj (.lst (rngL i j))) ρ) :
    ∃ F' ρ' r, Same F F' ∧ Keeps ρ ρ' ∧ Agree X.K B ρ' σ (upd H q (.lst (rgV i j))) F' G ∧ ResR X.K ρ' σ (upd H q (.lst (rgV i j))) F' G r (.ref q) ∧ K r ρ' := by
  obtain ⟨F2, r, s2, A2, r2, q2⟩ := A.fin (k := fun r => K r ρ) (Fin.lst hq (rgV_dp i j) hk)
  exact ⟨F2, ρ, r, s2, Keeps.refl _, A2, r2, q2⟩
theorem re_lrg1 {a : Expr} {p p2 pos pos2 : Pos} {w : WE} (hc : X.calm = true) (g1 : Gl X "list") (m1 : X.mg "list" = none) (g2 : Gl X "range") (m2 : X.mg "range" = none) (h : RE X a w) (hs : starEach [a] X.env = (false, eval a X.env) :: starEach [] X.env)
    (hs2 : starEach [.Call (.Name "range" p2) [a] [] pos2] X.env = (false, eval (.Call (.Name "range" p2) [a] [] pos2) X.env) :: starEach [] X.env) :
    RE X (.Call (.Name "list" p) [.Call (.Name "range" p2) [a] [] pos2] [] pos) (fun ρ K => w ρ fun r ρ1 => semF .listRng1 [res ρ1 r] fun r => K r ρ1) := fun B σ H F G ρ K A q => by
  refine of_pe (pe_listRg hc g1 m1 (prg_1 (p := p2) (pos := pos2) g2 m2 pe_of hs) hs2) ?_
  refine tOf_mono (h B σ H F G ρ _ A q) fun v H1 ⟨F1, ρ1, r, s1, k1, A1, r1, q1⟩ => ?_
  have ha := A1.arg r1
  obtain ⟨j, e, ⟨⟨b1, b2⟩, b3⟩, q1⟩ := semF_rg1 q1
  rw [e] at ha
  cases ha
  refine ⟨j, rfl, ⟨by omega, by omega, b1, b2, by omega⟩, fun l hl => ?_⟩
  obtain ⟨F2, ρ2, r2, s2, k2, A2, r3, q2⟩ := rgV_fin A1 hl q1
  exact ⟨F2, ρ2, r2, s1.trans s2, k1.trans k2, A2, r3, q2⟩
theorem re_lrg2 {a b : Expr} {p p2 pos pos2 : Pos} {wa wb : WE} (hc : X.calm = true) (g1 : Gl X "list") (m1 : X.mg "list" = none) (g2 : Gl X "range") (m2 : X.mg "range" = none) (ha : RE X a wa) (hb : RE X b wb) (hs : starEach [a, b] X.env = (false, eval a X.env) :: starEach [b] X.env) (hsb : starEach [b] X.env = (false, eval b X.env) :: starEach [] X.env)
    (hs2 : starEach [.Call (.Name "range" p2) [a, b] [] pos2] X.env = (false, eval (.Call (.Name "range" p2) [a, b] [] pos2) X.env) :: starEach [] X.env) :
    RE X (.Call (.Name "list" p) [.Call (.Name "range" p2) [a, b] [] pos2] [] pos) (fun ρ K => wa ρ fun x ρ1 => wb ρ1 fun y ρ2 => semF .listRng2 [res ρ2 x, res ρ2 y] fun r => K r ρ2) := fun B σ H F G ρ K A q => by
  refine of_pe (pe_listRg hc g1 m1 (prg_2 (p := p2) (pos := pos2) g2 m2 pe_of pe_of hs hsb (by rw [hsb]; rfl)) hs2) ?_
  refine tOf_mono (re_two ha hb A q) fun v H1 h1 => tOf_mono h1 fun u H2 ⟨F1, ρ1, x, y, s1, k1, A1, r1, r2, q1⟩ => ?_
  have xa := A1.arg r1
  have ya := A1.arg r2
  obtain ⟨i, j, e1, e2, ⟨⟨b1, b2⟩, ⟨b3, b4⟩, b5⟩, q1⟩ := semF_rg2 q1
  rw [e1] at xa
  rw [e2] at ya
  cases xa
  cases ya
  refine ⟨i, j, rfl, rfl, ⟨b1, b2, b3, b4, by omega⟩, fun l hl => ?_⟩
  obtain ⟨F2, ρ2, r2, s2, k2, A2, r3, q2⟩ := rgV_fin A1 hl q1
  exact ⟨F2, ρ2, r2, s1.trans s2, k1.trans k2, A2, r3, q2⟩
/-- sorted(set(..)) -/
theorem re_sset {a : Expr} {p p2 pos pos2 : Pos} {w : WE} (hc : X.calm = true) (g1 : Gl X "sorted") (m1 : X.mg "sorted" = none) (g2 : Gl X "set") (m2 : X.mg "set" = none) (h : RE X a w) (hs : starEach [a] X.env = (false, eval a X.env) :: starEach [] X.env)
    (hs2 : starEach [.Call (.Name "set" p2) [a] [] pos2] X.env = (false, eval (.Call (.Name "set" p2) [a] [] pos2) X.env) :: starEach [] X.env) :
    RE X (.Call (.Name "sorted" p) [.Call (.Name "set" p2) [a] [] pos2] [] pos) (fun ρ K => w ρ fun r ρ1 => semF .sortedSet [res ρ1 r] fun r => K r ρ1) := fun B σ H F G ρ K A q => by
  refine of_pe (pe_callB (cr_sortedSet hc) g1 m1 (by decide +kernel) (pa_cons (pe_callTy (p := p2) (pos := pos2) (cr_setI hc) g2 m2 (by decide +kernel) (pa_cons pe_of pa_nil hs) (by decide) (by decide) hs rfl) pa_nil hs2) (by decide) (by decide) hs2 rfl) ?_
  refine tOf_mono (h B σ H F G ρ _ A q) fun v H1 ⟨F1, ρ1, r, s1, k1, A1, r1, q1⟩ => ?_
  have ha := A1.arg r1
  obtain ⟨xs, ns, e1, e2, h64, q1⟩ := semF_set q1
  obtain ⟨l, ws, rfl, h1, h2⟩ := ArR.lstq ha e1 A1.fh
  obtain ⟨rfl, rfl⟩ := h2.ints e2
  refine ⟨l, ns, rfl, h1, h64, fun b c hb hc' => ?_⟩
  refine ⟨b, _, c, rfl, upd_same, by omega, fun out l2 o1 o2 o3 hl2 => ?_⟩
  rw [set_sorted_eq o1 o2]
  have nb : l2 ≠ b := fun e => by subst e; rw [upd_same] at hl2; cases hl2
  have hl1 : H1 l2 = none := by rw [upd_ne nb] at hl2; exact hl2
  have sm : Same H1 (upd (upd H1 b (SetO X.w b (fun j => decide (j ∈ ns)) c)) l2 (.lst ((setU ns).map V.int))) := fun a o ho => by
    rw [upd_ne (ne_of_none ho hl1), upd_ne (ne_of_none ho hb)]; exact ho
  have fin : Fin X.K F1 H1 (fun r => K r ρ1) (.ref l2) (upd (upd H1 b (SetO X.w b (fun j => decide (j ∈ ns)) c)) l2 (.lst ((setU ns).map V.int))) :=
    ⟨sm, _, q1, l2, .lst ((setU ns).map V.int), rfl, hl1, upd_same, _, rfl, dp_ints _⟩
  obtain ⟨F2, r, s2, A2, r2, q2⟩ := A1.fin fin
  exact ⟨F2, ρ1, r, s1.trans s2, k1, A2, r2, q2⟩
end
end Bo

set_option Elab.async false
set_option linter.all false
set_option maxRecDepth 100000
set_option maxHeartbeats 4000000
/-! Bo7: and, or; changes; calls of own defs. -/
namespace Bo
open PySem PySem.Spec PyProof.Rows L2

/-! ### and, or -/
section
variable {X : Cx}
def bopOf (isAnd : Bool) : BoolOp := if isAnd then .And else .Or
theorem re_bo1 {a : Expr} {pos : Pos} {op : BoolOp} {wa : WE} (ha : RE X a wa) : RE X (.BoolOp op [a] pos) (fun ρ K => wa ρ fun r ρ1 => asB r fun b => K (vB b) ρ1) := fun B σ H F G ρ K A w => by
  refine of_pe (pe_one pe_of) ?_
  refine tOf_mono (ha B σ H F G ρ _ A w) fun v H1 ⟨F1, ρ1, x, s1, k1, A1, r1, w1⟩ => ?_
  obtain ⟨b, rfl, w2⟩ := asB_true w1
  replace w1 := w2
  clear w2
  exact ⟨F1, ρ1, vB b, s1, k1, A1, r1, w1⟩
theorem re_bo2 {a b : Expr} {rest : List Expr} {pos : Pos} (isAnd : Bool) {wa : WE} {wr : Ev → (Bool → Ev → Prop) → Prop} (ha : RE X a wa) (hr : RE X (.BoolOp (bopOf isAnd) (b :: rest) pos) (fun ρ K => wr ρ fun c ρ1 => K (vB c) ρ1)) :
    RE X (.BoolOp (bopOf isAnd) (a :: b :: rest) pos) (fun ρ K => wa ρ fun r ρ1 => asB r fun c => if c = isAnd then wr ρ1 (fun c ρ2 => K (vB c) ρ2) else K (vB c) ρ1) := fun B σ H F G ρ K A w => by
  cases isAnd with
  | true =>
    refine of_pe (pe_and pe_of pe_of) ?_
    refine tOf_mono (ha B σ H F G ρ _ A w) fun v H1 ⟨F1, ρ1, x, s1, k1, A1, r1, w1⟩ => ?_
    obtain ⟨c, rfl, w2⟩ := asB_true w1
    replace w1 := w2
    clear w2
    cases r1
    refine ⟨c, rfl, ?_⟩
    cases c with
    | true =>
      rw [if_pos rfl] at w1 ⊢
      exact tOf_mono (hr B σ H1 F1 G ρ1 K A1 w1) fun v H2 ⟨F2, ρ2, r, s2, k2, A2, r2, w2⟩ => ⟨F2, ρ2, r, s1.trans s2, k1.trans k2, A2, r2, w2⟩
    | false =>
      rw [if_neg Bool.false_ne_true] at w1 ⊢
      exact ⟨F1, ρ1, vB false, s1, k1, A1, Dp.bl false, w1⟩
  | false =>
    refine of_pe (pe_or pe_of pe_of) ?_
    refine tOf_mono (ha B σ H F G ρ _ A w) fun v H1 ⟨F1, ρ1, x, s1, k1, A1, r1, w1⟩ => ?_
    obtain ⟨c, rfl, w2⟩ := asB_true w1
    replace w1 := w2
    clear w2
    cases r1
    refine ⟨c, rfl, ?_⟩
    cases c with
    | false =>
      rw [if_pos rfl] at w1
      rw [if_neg Bool.false_ne_true]
      exact tOf_mono (hr B σ H1 F1 G ρ1 K A1 w1) fun v H2 ⟨F2, ρ2, r, s2, k2, A2, r2, w2⟩ => ⟨F2, ρ2, r, s1.trans s2, k1.trans k2, A2, r2, w2⟩
    | true =>
      rw [if_neg (by decide)] at w1
      rw [if_pos rfl]
      exact ⟨F1, ρ1, vB true, s1, k1, A1, Dp.bl true, w1⟩
theorem rw_bo1 {a : Expr} {pos : Pos} (isAnd : Bool) {wa : Ev → (Bool → Ev → Prop) → Prop} (ha : RT X a wa) : RW X (.BoolOp (bopOf isAnd) [a] pos) wa := fun B σ H F G ρ K A w => by
  cases isAnd with
  | true => exact of_pw (pw_and1 pt_of) (ha B σ H F G ρ K A w)
  | false => exact of_pw (pw_or1 pt_of) (ha B σ H F G ρ K A w)
theorem rw_bo2 {a b : Expr} {rest : List Expr} {pos : Pos} (isAnd : Bool) {wa wr : Ev → (Bool → Ev → Prop) → Prop} (ha : RT X a wa) (hr : RW X (.BoolOp (bopOf isAnd) (b :: rest) pos) wr) :
    RW X (.BoolOp (bopOf isAnd) (a :: b :: rest) pos) (fun ρ K => wa ρ fun c ρ1 => if c = isAnd then wr ρ1 K else K c ρ1) := fun B σ H F G ρ K A w => by
  cases isAnd with
  | true =>
    refine of_pw (pw_and pt_of pw_of) ?_
    refine tTOf_mono (ha B σ H F G ρ _ A w) fun c H1 ⟨F1, ρ1, s1, k1, A1, w1⟩ => ?_
    cases c with
    | true =>
      rw [if_pos rfl] at w1 ⊢
      exact fun whole pins s I => thn (hr B σ H1 F1 G ρ1 K A1 w1 whole pins s I) fun u s' ⟨H', I', F2, ρ2, s2, k2, A2, w2⟩ => ⟨H', I', F2, ρ2, s1.trans s2, k1.trans k2, A2, w2⟩
    | false =>
      rw [if_neg Bool.false_ne_true] at w1 ⊢
      exact ⟨F1, ρ1, s1, k1, A1, w1⟩
  | false =>
    refine of_pw (pw_or pt_of pw_of) ?_
    refine tTOf_mono (ha B σ H F G ρ _ A w) fun c H1 ⟨F1, ρ1, s1, k1, A1, w1⟩ => ?_
    cases c with
    | false =>
      rw [if_pos rfl] at w1
      rw [if_neg Bool.false_ne_true]
      exact fun whole pins s I => thn (hr B σ H1 F1 G ρ1 K A1 w1 whole pins s I) fun u s' ⟨H', I', F2, ρ2, s2, k2, A2, w2⟩ => ⟨H', I', F2, ρ2, s1.trans s2, k1.trans k2, A2, w2⟩
    | true =>
      rw [if_neg (by decide)] at w1
      rw [if_pos rfl]
      exact ⟨F1, ρ1, s1, k1, A1, w1⟩
theorem RW.rt {e : Expr} {w : Ev → (Bool → Ev → Prop) → Prop} (h : RW X e w) : RT X e w := fun B σ H F G ρ K A q pins s I => h B σ H F G ρ K A q (eval e X.env) pins s I

/-! ### methods that change their list -/
def mmId : MM → String
  | .append => "list.append"
  | .pop => "list.pop"
  | .popAt => "list.pop"
  | .reverse => "list.reverse"
  | .remove => "list.remove"
def rMM (K : PySem.W.Frag) (m : MM) : V → List V → Hp → VK → Prop := fun x vs H Q => ∃ (F : Hp) (o : Ob) (ds : List PyData) (a : Addr) (ho : HO) (k : Ob → PyData → Prop), x = .ref a ∧ H a = some ho ∧ ObH K F ho o ∧ DpAll K F vs ds ∧ semMM m o ds k ∧
  ∀ ho' o' v d, ObH K F ho' o' → Dp K F v d → k o' d → Q v (upd H a ho')
theorem dpa_nil {K : PySem.W.Frag} {F : Hp} {vs : List V} (h : DpAll K F vs []) : vs = [] := by
  cases h; rfl
theorem dpa_one {K : PySem.W.Frag} {F : Hp} {vs : List V} {d : PyData} (h : DpAll K F vs [d]) : ∃ v, vs = [v] ∧ Dp K F v d := by
  cases h with
  | cons a t => cases t; exact ⟨_, rfl, a⟩
theorem DpAll.dropLast' {K : PySem.W.Frag} {F : Hp} {vs : List V} {ds : List PyData} (h : DpAll K F vs ds) : DpAll K F vs.dropLast ds.dropLast := by
  rw [List.dropLast_eq_take, List.dropLast_eq_take, h.length]
  exact h.take _
theorem seqIx_of {n : Nat} {i : Int} {j : Nat} (h : ixN n i = some j) : seqIndex? i n = some j := (ixN_seq h).1
theorem mm_sound (m : MM) : MtR X (mmId m) (rMM X.K m) := by
  intro pins s σ H x xs v us Q I rx rxs h
  obtain ⟨F, o, ds, a, ho, k, rfl, ha, hob, hd, hsem, hq⟩ := h
  unfold semMM at hsem
  split at hsem
  · obtain ⟨vs, rfl, hv⟩ := hob
    obtain ⟨y, rfl, hy⟩ := dpa_one hd
    refine mt_append pins s σ H _ _ v us Q I rx rxs ⟨a, vs, y, rfl, rfl, ha, by rw [hv.length, line_eq]; exact hsem.1, hq _ (.lst _) _ _ ⟨_, rfl, hv.append (.cons hy .nil)⟩ .non hsem.2⟩
  · obtain ⟨vs, rfl, hv⟩ := hob
    have e := dpa_nil hd
    subst e
    obtain ⟨d, e, hk⟩ := opt_some hsem
    rw [List.getLast?_eq_getElem?] at e
    have e2 := e
    obtain ⟨y, hy, hdy⟩ := hv.get e2
    exact mt_pop pins s σ H _ _ v us Q I rx rxs ⟨a, vs, y, rfl, rfl, ha, by rw [hv.length]; exact hy, hq _ (.lst _) _ _ ⟨_, rfl, DpAll.dropLast' hv⟩ hdy hk⟩
  · obtain ⟨vs, rfl, hv⟩ := hob
    obtain ⟨w, rfl, hw⟩ := dpa_one hd
    cases hw
    obtain ⟨⟨h1, h2⟩, h3⟩ := hsem
    obtain ⟨j, e1, h3⟩ := opt_some h3
    obtain ⟨d, e2, hk⟩ := opt_some h3
    obtain ⟨y, hy, hdy⟩ := hv.get e2
    exact mt_popAt pins s σ H _ _ v us Q I rx rxs ⟨a, vs, _, j, y, rfl, rfl, ha, by omega, by omega, by rw [hv.length]; exact seqIx_of e1, hy, hq _ (.lst _) _ _ ⟨_, rfl, hv.eraseIdx j⟩ hdy hk⟩
  · obtain ⟨vs, rfl, hv⟩ := hob
    have e := dpa_nil hd
    subst e
    exact mt_reverse pins s σ H _ _ v us Q I rx rxs ⟨a, vs, rfl, rfl, ha, hq _ (.lst _) _ _ ⟨_, rfl, hv.reverse⟩ .non hsem⟩
  · exact hsem.elim
theorem objAt_cases {ρ : Ev} {i : Nat} {k : Ob → (Ob → En) → Prop} (h : objAt ρ i k) : ∃ o c, ρ.get i = c o ∧ (c = .own ∨ c = .bor) ∧ k o c := by
  unfold objAt at h
  split at h
  · rename_i e; exact ⟨_, .own, e, .inl rfl, h⟩
  · rename_i e; exact ⟨_, .bor, e, .inr rfl, h⟩
  · exact h.elim
theorem mut_core {e : Expr} {i : Nat} {m : MM} {ws : Ev → (List PyData → Ev → Prop) → Prop} {te : TE} {es : List Expr} (hs : RFs X es ws)
    (hp : ∀ Q σ H, tBM X.K "list" (rMM X.K m) (tVar i) (tAOf X es) σ H Q → tOf X e σ H Q) :
    RE X e (fun ρ K => isLst ρ i ∧ ws ρ fun ds ρ1 => objAt ρ1 i fun o c => semMM m o ds fun o' d => K (.val d) (ρ1.set i (c o'))) := fun B σ H F G ρ K A w => by
  refine hp _ _ _ ?_
  obtain ⟨w0, w⟩ := w
  have hl : ∃ xs, ρ.get i = .own (.lst xs) ∨ ρ.get i = .bor (.lst xs) := by
    unfold isLst at w0
    split at w0
    · rename_i q; exact ⟨_, .inl q⟩
    · rename_i q; exact ⟨_, .inr q⟩
    · exact w0.elim
  obtain ⟨xs, hl⟩ := hl
  obtain ⟨a, hx, z1, z2, z3, z4, vs, rfl, z5⟩ := A.obj i _ hl
  refine ⟨_, z1, .inl ⟨rfl, vs, .of z4⟩, ?_⟩
  refine tAOf_mono (hs B σ H F G ρ _ A w) fun us H1 ⟨F1, ρ1, ds, s1, k1, A1, d1, q1⟩ => ?_
  obtain ⟨o, c, e1, ec, q1⟩ := objAt_cases q1
  have hob : ρ1.get i = .own o ∨ ρ1.get i = .bor o := by rcases ec with e | e <;> (subst e; first | exact .inl e1 | exact .inr e1)
  obtain ⟨a', ho, y1, y2, y3, y4, y5⟩ := A1.obj i o hob
  rw [z1] at y1
  cases y1
  refine ⟨F1, o, ds, a, ho, _, rfl, y4, y5, d1, q1, fun ho' o' v d h1 h2 h3 => ?_⟩
  obtain ⟨A2, _, _⟩ := A1.write e1 ec z1 h1
  refine ⟨F1, _, .val d, s1, k1.trans (Keeps.set ?_), A2, h2, h3⟩
  rcases ec with e | e <;> (subst e; exact fun z => by cases z)

/-! ### calls of own defs -/
def CtMono (C : Ct) : Prop := ∀ (es : List En) (k k' : Rs → List Ob → Prop), (∀ r os, k r os → k' r os) → C es k → C es k'
def EnR (K : PySem.W.Frag) (F H G : Hp) (e : En) (v : V) : Prop := match e with
  | .val d => Dp K F v d
  | .bor o => ∃ a ho, v = .ref a ∧ F a = none ∧ G a = none ∧ H a = some ho ∧ ObH K F ho o
  | _ => False
def bors : List En → List V → List Addr
  | .bor _ :: es, .ref a :: vs => a :: bors es vs
  | _ :: es, _ :: vs => bors es vs
  | _, _ => []
/-- what a call's result is -/
def OutR (K : PySem.W.Frag) (F' H' G : Hp) (bs : List Addr) (r : Rs) (v : V) : Prop := match r with
  | .val d => Dp K F' v d
  | .obj o => ∃ a ho, v = .ref a ∧ F' a = none ∧ G a = none ∧ a ∉ bs ∧ H' a = some ho ∧ ObH K F' ho o
  | .slot _ => False
def SpOf (K : PySem.W.Frag) (n : Nat) (C : Ct) : Sp := fun vs H Q _ => ∃ (F G : Hp) (es : List En), vs.length = n ∧ Same F H ∧ Same G H ∧ (∀ a o, G a = some o → F a = none) ∧ Paired (EnR K F H G) es vs ∧ (bors es vs).Nodup ∧
  C es fun r os => ∀ v H' F', Same F F' → Same F' H' → Same G H' → (∀ a o, G a = some o → F' a = none) → OutR K F' H' G (bors es vs) r v →
    Paired (fun a o => F' a = none ∧ ∃ ho, H' a = some ho ∧ ObH K F' ho o) (bors es vs) os → Q v H'
end
theorem putOb_get {ρ : Ev} {i : Nat} {o : Ob} (h : isObj ρ i) (j : Nat) : (putOb ρ i o).get j = if j = i then (match ρ.get i with | .own _ => .own o | .bor _ => .bor o | e => e) else ρ.get j := by
  obtain ⟨ob, hob⟩ := isObj_iff.mp h
  have hi : i < ρ.length := get_lt (by rcases hob with e | e <;> (rw [e]; exact fun z => by cases z))
  unfold putOb
  rcases hob with e | e <;> rw [e] <;> exact get_set hi
theorem isObj_putOb {ρ : Ev} {i : Nat} {o : Ob} (h : isObj ρ i) (j : Nat) : isObj (putOb ρ i o) j ↔ isObj ρ j := by
  unfold isObj
  rw [putOb_get h]
  by_cases z : j = i
  · subst z
    rw [if_pos rfl]
    cases ρ.get j <;> exact Iff.rfl
  · rw [if_neg z]
theorem putOb_len {ρ : Ev} {i : Nat} {o : Ob} : (putOb ρ i o).length = ρ.length := by
  unfold putOb
  split <;> simp
theorem putObs_get : ∀ {is : List Nat} {os : List Ob} {ρ : Ev}, is.Nodup → os.length = is.length → (∀ i ∈ is, isObj ρ i) →
    (putObs ρ is os).length = ρ.length ∧ ∀ j : Nat, (j ∉ is → (putObs ρ is os).get j = ρ.get j) ∧
      (∀ k : Nat, is[k]? = some j → ∃ o, os[k]? = some o ∧ ((∃ o', ρ.get j = .own o' ∧ (putObs ρ is os).get j = .own o) ∨ (∃ o', ρ.get j = .bor o' ∧ (putObs ρ is os).get j = .bor o)))
  | [], os, ρ, _, _, _ => ⟨by cases os <;> rfl, fun j => ⟨fun _ => by cases os <;> rfl, fun k h => by simp at h⟩⟩
  | i :: is, [], ρ, _, h, _ => by simp at h
  | i :: is, o :: os, ρ, nd, hl, ho => by
    obtain ⟨n1, n2⟩ := List.nodup_cons.mp nd
    have hi := ho i List.mem_cons_self
    obtain ⟨ihl, ih⟩ := putObs_get (is := is) (os := os) (ρ := putOb ρ i o) n2 (by simpa using hl) fun j hj => (isObj_putOb hi j).mpr (ho j (List.mem_cons_of_mem _ hj))
    refine ⟨by show (putObs (putOb ρ i o) is os).length = _; rw [ihl, putOb_len], fun j => ?_⟩
    show (_ → (putObs (putOb ρ i o) is os).get j = _) ∧ ∀ k : Nat, _ → ∃ o', _ ∧ ((∃ _, _ ∧ (putObs (putOb ρ i o) is os).get j = _) ∨ (∃ _, _ ∧ (putObs (putOb ρ i o) is os).get j = _))
    obtain ⟨ih1, ih2⟩ := ih j
    refine ⟨fun hj => ?_, fun k hk => ?_⟩
    · rw [ih1 fun z => hj (List.mem_cons_of_mem _ z), putOb_get hi, if_neg fun z => hj (by rw [z]; exact List.mem_cons_self)]
    · cases k with
      | zero =>
        have e : i = j := by simpa using hk
        subst e
        refine ⟨o, rfl, ?_⟩
        rw [ih1 n1, putOb_get hi, if_pos rfl]
        obtain ⟨ob, hob⟩ := isObj_iff.mp hi
        rcases hob with e | e
        · rw [e]; exact .inl ⟨ob, rfl, rfl⟩
        · rw [e]; exact .inr ⟨ob, rfl, rfl⟩
      | succ k =>
        have hk' : is[k]? = some j := by simpa using hk
        obtain ⟨o2, e1, e2⟩ := ih2 k hk'
        have hne : j ≠ i := fun z => n1 (by rw [← z]; exact List.mem_of_getElem? hk')
        rw [putOb_get hi, if_neg hne] at e2
        exact ⟨o2, by simpa using e1, e2⟩
theorem bors_pair {K : PySem.W.Frag} {B : Nat → Option Addr} {ρ : Ev} {σ : L2.St} {H F G : Hp} (A : Agree K B ρ σ H F G) : ∀ {as : List Ag} {vs : List V}, Paired (AgR K σ F) as vs → (∀ i ∈ agSlots as, isObj ρ i) →
    Paired (fun (i : Nat) (a : Addr) => σ[i]? = some (some (.ref a))) (agSlots as) (bors (as.map (agEn ρ)) vs)
  | _, _, .nil, _ => .nil
  | a :: as, v :: vs, .cons r t, ho => by
    cases a with
    | d d =>
      have ih := bors_pair A t ho
      exact ih
    | s i =>
      have hi := ho i List.mem_cons_self
      obtain ⟨ob, hob⟩ := isObj_iff.mp hi
      obtain ⟨a, hx, z1, _⟩ := A.obj i ob hob
      have r' : σ[i]? = some (some v) := r
      rw [r'] at z1
      have ev : v = .ref a := Option.some.inj (Option.some.inj z1)
      subst ev
      have ih := bors_pair A t fun j hj => ho j (List.mem_cons_of_mem _ hj)
      have e : agEn ρ (.s i) = .bor ob := by
        show (match ρ.get i with
          | .own o => En.bor o
          | .bor o => .bor o
          | _ => .no) = _
        rcases hob with e | e <;> rw [e]
      show Paired _ (i :: agSlots as) (bors (agEn ρ (.s i) :: as.map (agEn ρ)) (.ref a :: vs))
      rw [e]
      exact .cons r' ih
theorem pair_nodup {σ : L2.St} {ρ : Ev} {K : PySem.W.Frag} {B : Nat → Option Addr} {H F G : Hp} (A : Agree K B ρ σ H F G) : ∀ {is : List Nat} {as : List Addr}, Paired (fun (i : Nat) (a : Addr) => σ[i]? = some (some (V.ref a))) is as → is.Nodup → (∀ i ∈ is, isObj ρ i) → as.Nodup
  | _, _, .nil, _, _ => .nil
  | i :: is, a :: as, .cons r t, nd, ho => by
    obtain ⟨n1, n2⟩ := List.nodup_cons.mp nd
    refine List.nodup_cons.mpr ⟨fun hm => ?_, pair_nodup A t n2 fun j hj => ho j (List.mem_cons_of_mem _ hj)⟩
    have : ∃ j, j ∈ is ∧ σ[j]? = some (some (V.ref a)) := by
      clear n1 n2 nd ho r
      induction t with
      | nil => simp at hm
      | cons r' t' ih =>
        rcases List.mem_cons.mp hm with e | e
        · subst e; exact ⟨_, List.mem_cons_self, r'⟩
        · obtain ⟨j, h1, h2⟩ := ih e
          exact ⟨j, List.mem_cons_of_mem _ h1, h2⟩
    obtain ⟨j, h1, h2⟩ := this
    have := A.inj i j a (ho i List.mem_cons_self) (ho j (List.mem_cons_of_mem _ h1)) r h2
    exact n1 (by rw [this]; exact h1)
theorem pair_at {α β : Type} {R : α → β → Prop} : ∀ {is : List α} {as : List β} {i : α}, Paired R is as → i ∈ is → ∃ (k : Nat) (a : β), is[k]? = some i ∧ as[k]? = some a ∧ R i a
  | _, _, _, .nil, h => by simp at h
  | i :: is, a :: as, j, .cons r t, h => by
    rcases List.mem_cons.mp h with e | e
    · subst e; exact ⟨0, a, rfl, rfl, r⟩
    · obtain ⟨k, b, h1, h2, h3⟩ := pair_at t e
      exact ⟨k + 1, b, by simpa using h1, by simpa using h2, h3⟩
theorem pair_at2 {α β : Type} {R : α → β → Prop} : ∀ {is : List α} {as : List β} {k : Nat} {i : α} {a : β}, Paired R is as → is[k]? = some i → as[k]? = some a → R i a
  | _, _, _, _, _, .nil, h, _ => by simp at h
  | i :: is, a :: as, 0, _, _, .cons r t, h, h' => by
    cases (show some i = _ from h)
    cases (show some a = _ from h')
    exact r
  | i :: is, a :: as, k + 1, _, _, .cons r t, h, h' => pair_at2 t (k := k) (by simpa using h) (by simpa using h')
open Classical in
/-- what a callee has to leave alone -/
noncomputable def callG (ρ : Ev) (σ : L2.St) (H G : Hp) (is : List Nat) : Hp := fun a => match G a with
  | some o => some o
  | none => if (∃ j, isObj ρ j ∧ j ∉ is ∧ σ[j]? = some (some (V.ref a))) then H a else none
theorem callG_G {ρ : Ev} {σ : L2.St} {H G : Hp} {is : List Nat} : Same G (callG ρ σ H G is) := fun a o h => by
  unfold callG; rw [h]
theorem callG_obj {ρ : Ev} {σ : L2.St} {H G : Hp} {is : List Nat} {a : Addr} {j : Nat} (hg : G a = none) (h1 : isObj ρ j) (h2 : j ∉ is) (h3 : σ[j]? = some (some (V.ref a))) : callG ρ σ H G is a = H a := by
  unfold callG; rw [hg]
  exact if_pos ⟨j, h1, h2, h3⟩
theorem callG_cases {ρ : Ev} {σ : L2.St} {H G : Hp} {is : List Nat} {a : Addr} {o : HO} (h : callG ρ σ H G is a = some o) : G a = some o ∨ (H a = some o ∧ G a = none ∧ ∃ j, isObj ρ j ∧ j ∉ is ∧ σ[j]? = some (some (V.ref a))) := by
  unfold callG at h
  cases e : G a with
  | some u => rw [e] at h; exact .inl h
  | none =>
    rw [e] at h
    simp only at h
    split at h
    · rename_i q; exact .inr ⟨h, rfl, q⟩
    · cases h
section
variable {X : Cx}
theorem re_call {e : Expr} {es : List Expr} {n : Nat} {C : Ct} {ws : Ev → (List Ag → Ev → Prop) → Prop} (h : RAs X es ws) (hn : es.length = n) (mono : CtMono C)
    (hp : ∀ Q σ H, tCall (SpOf X.K n C) [] E0 (tAOf X es) σ H Q → tOf X e σ H Q) :
    RE X e (fun ρ K => ws ρ fun as ρ1 => ((agSlots as).Nodup ∧ ∀ i ∈ agSlots as, isObj ρ1 i) ∧ C (as.map (agEn ρ1)) fun r os => os.length = (agSlots as).length ∧ K r (putObs ρ1 (agSlots as) os)) := fun B σ H F G ρ K A w => by
  refine hp _ _ _ ?_
  refine tAOf_mono (h B σ H F G ρ _ A w) fun vs H1 ⟨F1, ρ1, as, s1, k1, A1, r1, el, ⟨nd, hob⟩, q1⟩ => ?_
  rw [hn] at el
  rw [List.append_nil]
  have hG : ∀ a o, callG ρ1 σ H1 G (agSlots as) a = some o → F1 a = none := fun a o hg => by
    rcases callG_cases hg with hg | ⟨_, _, j, j1, _, j2⟩
    · exact A1.fg a o hg
    · obtain ⟨ob, hb⟩ := isObj_iff.mp j1
      obtain ⟨b, ho, z1, z2, _⟩ := A1.obj j ob hb
      rw [j2] at z1
      cases z1
      exact z2
  have bp := bors_pair A1 r1 hob
  have bnd := pair_nodup A1 bp nd hob
  have gnone : ∀ i a, i ∈ agSlots as → σ[i]? = some (some (V.ref a)) → callG ρ1 σ H1 G (agSlots as) a = none := fun i a hi ha => by
    cases q : callG ρ1 σ H1 G (agSlots as) a with
    | none => rfl
    | some o =>
      obtain ⟨ob, hb⟩ := isObj_iff.mp (hob i hi)
      obtain ⟨b, ho, z1, z2, z3, _⟩ := A1.obj i ob hb
      rw [ha] at z1
      cases z1
      rcases callG_cases q with hg | ⟨_, _, j, j1, j2, j3⟩
      · rw [z3] at hg; cases hg
      · have := A1.inj i j a (hob i hi) j1 ha j3
        exact absurd (by rw [← this]; exact hi) j2
  refine ⟨F1, callG ρ1 σ H1 G (agSlots as), as.map (agEn ρ1), el, A1.fh, fun a o hg => ?_, hG, ?_, bnd, ?_⟩
  · rcases callG_cases hg with hg | ⟨hg, _⟩
    · exact A1.gh a o hg
    · exact hg
  · -- the arguments
    have args : ∀ {as' : List Ag} {vs' : List V}, Paired (AgR X.K σ F1) as' vs' → (∀ i ∈ agSlots as', i ∈ agSlots as) → Paired (EnR X.K F1 H1 (callG ρ1 σ H1 G (agSlots as))) (as'.map (agEn ρ1)) vs' := by
      intro as' vs' hp hs
      induction hp with
      | nil => exact .nil
      | cons r t ih =>
        rename_i a v _ _
        cases a with
        | d d => exact .cons r (ih hs)
        | s i =>
          refine .cons ?_ (ih fun j hj => hs j (List.mem_cons_of_mem _ hj))
          have hi := hs i List.mem_cons_self
          obtain ⟨ob, hb⟩ := isObj_iff.mp (hob i hi)
          obtain ⟨a, ho, z1, z2, z3, z4, z5⟩ := A1.obj i ob hb
          have r' : σ[i]? = some (some v) := r
          have z1' := z1
          rw [r'] at z1
          have ev : v = .ref a := Option.some.inj (Option.some.inj z1)
          subst ev
          have e : agEn ρ1 (.s i) = .bor ob := by
            show (match ρ1.get i with
              | .own o => En.bor o
              | .bor o => .bor o
              | _ => .no) = _
            rcases hb with e | e <;> rw [e]
          rw [e]
          exact ⟨a, ho, rfl, z2, gnone i a hi z1', z4, z5⟩
    exact args r1 fun _ h => h
  · -- behind the call
    have fin : ∀ r os, (os.length = (agSlots as).length ∧ K r (putObs ρ1 (agSlots as) os)) → ∀ v H' F', Same F1 F' → Same F' H' → Same (callG ρ1 σ H1 G (agSlots as)) H' → (∀ a o, callG ρ1 σ H1 G (agSlots as) a = some o → F' a = none) →
        OutR X.K F' H' (callG ρ1 σ H1 G (agSlots as)) (bors (as.map (agEn ρ1)) vs) r v → Paired (fun a o => F' a = none ∧ ∃ ho, H' a = some ho ∧ ObH X.K F' ho o) (bors (as.map (agEn ρ1)) vs) os →
        ∃ F' ρ' r, Same F F' ∧ Keeps ρ ρ' ∧ Agree X.K B ρ' σ H' F' G ∧ ResR X.K ρ' σ H' F' G r v ∧ K r ρ' := by
      intro r os ⟨hl, hK⟩ v H' F' f1 f2 f3 f4 hout hos
      obtain ⟨pl, pg⟩ := putObs_get (os := os) nd hl hob
      have pobj : ∀ j, isObj (putObs ρ1 (agSlots as) os) j ↔ isObj ρ1 j := fun j => by
        by_cases hj : j ∈ agSlots as
        · obtain ⟨k, hk⟩ := List.getElem?_of_mem hj
          obtain ⟨o, _, ho⟩ := (pg j).2 k hk
          refine ⟨fun _ => hob j hj, fun _ => isObj_iff.mpr ?_⟩
          rcases ho with ⟨o', _, e⟩ | ⟨o', _, e⟩
          · exact ⟨o, .inl e⟩
          · exact ⟨o, .inr e⟩
        · unfold isObj
          rw [(pg j).1 hj]
      have A2 : Agree X.K B (putObs ρ1 (agSlots as) os) σ H' F' G := by
        refine ⟨f2, callG_G.trans f3, fun a o hg => f4 a o (callG_G a o hg), by rw [pl]; exact A1.len, fun j d hj => ?_, fun j o hj => ?_, fun i j a hi hj => A1.inj i j a ((pobj i).mp hi) ((pobj j).mp hj), fun i a hb => ?_⟩
        · by_cases hjs : j ∈ agSlots as
          · obtain ⟨k, hk⟩ := List.getElem?_of_mem hjs
            obtain ⟨o, _, ho⟩ := (pg j).2 k hk
            rcases ho with ⟨o', _, e⟩ | ⟨o', _, e⟩ <;> (rw [e] at hj; cases hj)
          · rw [(pg j).1 hjs] at hj
            obtain ⟨w, z1, z2⟩ := A1.val j d hj
            exact ⟨w, z1, dp_mono f1 _ _ z2⟩
        · by_cases hjs : j ∈ agSlots as
          · obtain ⟨k, a, hk, ha, hr⟩ := pair_at bp hjs
            obtain ⟨o2, e2, ho⟩ := (pg j).2 k hk
            have eo : o2 = o := by rcases ho with ⟨o', _, e⟩ | ⟨o', _, e⟩ <;> (rw [e] at hj; rcases hj with y | y <;> cases y; rfl)
            subst eo
            obtain ⟨g1, ho3, g2, g3⟩ := pair_at2 hos ha e2
            obtain ⟨ob, hb⟩ := isObj_iff.mp (hob j hjs)
            obtain ⟨b, ho4, z1, z2, z3, _⟩ := A1.obj j ob hb
            rw [hr] at z1
            cases z1
            exact ⟨a, ho3, hr, g1, z3, g2, g3⟩
          · rw [(pg j).1 hjs] at hj
            obtain ⟨b, ho, z1, z2, z3, z4, z5⟩ := A1.obj j o hj
            have cg := callG_obj (H := H1) (is := agSlots as) z3 (isObj_iff.mpr ⟨o, hj⟩) hjs z1
            rw [z4] at cg
            exact ⟨b, ho, z1, f4 b _ cg, z3, f3 b _ cg, z5.mono f1⟩
        · obtain ⟨⟨o, z1⟩, z2⟩ := A1.bor i a hb
          refine ⟨?_, z2⟩
          by_cases hjs : i ∈ agSlots as
          · obtain ⟨k, hk⟩ := List.getElem?_of_mem hjs
            obtain ⟨o2, e2, ho⟩ := (pg i).2 k hk
            rcases ho with ⟨o', e, _⟩ | ⟨o', _, e⟩
            · rw [z1] at e; cases e
            · exact ⟨o2, e⟩
          · exact ⟨o, by rw [(pg i).1 hjs]; exact z1⟩
      refine ⟨F', putObs ρ1 (agSlots as) os, r, s1.trans f1, fun j hj => ?_, A2, ?_, hK⟩
      · have hj1 := k1 j hj
        by_cases hjs : j ∈ agSlots as
        · obtain ⟨o, ho⟩ := isObj_iff.mp ((pobj j).mpr (hob j hjs))
          rcases ho with e | e <;> (rw [e]; exact fun z => by cases z)
        · rw [(pg j).1 hjs]; exact hj1
      · cases r with
        | val d => exact hout
        | slot i => exact hout.elim
        | obj o =>
          obtain ⟨a, ho, rfl, y1, y2, y3, y4, y5⟩ := hout
          refine ⟨a, ho, rfl, y1, callG_G.free y2, fun j hj ej => ?_, y4, y5⟩
          have hj1 := (pobj j).mp hj
          by_cases hjs : j ∈ agSlots as
          · obtain ⟨k, b, hk, hb, hr⟩ := pair_at bp hjs
            rw [ej] at hr
            cases hr
            exact y3 (List.mem_of_getElem? hb)
          · obtain ⟨o', ho'⟩ := isObj_iff.mp hj1
            obtain ⟨b, ho2, z1, z2, z3, z4, z5⟩ := A1.obj j o' ho'
            rw [ej] at z1
            cases z1
            have cg := callG_obj (H := H1) (is := agSlots as) z3 hj1 hjs ej
            rw [y2, z4] at cg
            cases cg
    exact mono _ _ _ fin q1
end
end Bo

set_option Elab.async false
set_option linter.all false
set_option maxRecDepth 100000
set_option maxHeartbeats 4000000
/-! Bo8: what is walked, targets, comprehensions. -/
namespace Bo
open PySem PySem.Spec PyProof.Rows L2
section
variable {X : Cx} {tg : Expr}
theorem ItOk.mono {K : PySem.W.Frag} {J : It} {F F' : Hp} {ds : List PyData} (h : ItOk K J F ds) (s : Same F F') : ItOk K J F' ds := fun H hs => by
  obtain ⟨h1, h2, h3⟩ := h H (s.trans hs)
  exact ⟨h1, h2, fun i x H' hi hy => let ⟨e, d, e1, e2⟩ := h3 i x H' hi hy; ⟨e, d, e1, dp_mono s _ _ e2⟩⟩
theorem itok_list {K : PySem.W.Frag} {F : Hp} {a : Addr} {vs : List V} {ds : List PyData} (h : SqL K F a vs) (hd : DpAll K F vs ds) : ItOk K (Itl K a) F ds := fun H hs => by
  have h' := hs.seq h
  have el := hd.length
  refine ⟨fun i hi => ?_, fun i hi => ⟨vs, h', by omega⟩, fun i x H' hi ⟨e, hy⟩ => ⟨e, ?_⟩⟩
  · exact ⟨vs, vs[i]'(by omega), h', by simp [show i < vs.length by omega]⟩
  · exact hd.getV (hy vs h')
theorem itok_tup {K : PySem.W.Frag} {F : Hp} {a : Addr} {vs : List V} {ds : List PyData} (h : SqT K F a vs) (hd : DpAll K F vs ds) : ItOk K (Itt K a) F ds := fun H hs => by
  have h' := same_t hs h
  have el := hd.length
  refine ⟨fun i hi => ?_, fun i hi => ⟨vs, h', by omega⟩, fun i x H' hi ⟨e, hy⟩ => ⟨e, ?_⟩⟩
  · exact ⟨vs, vs[i]'(by omega), h', by simp [show i < vs.length by omega]⟩
  · exact hd.getV (hy vs h')
theorem rngL_length (a b : Int) : (rngL a b).length = (b - a).toNat := by unfold rngL; rw [List.length_map, List.length_range]
theorem rngL_get (a b : Int) {i : Nat} (h : i < (b - a).toNat) : (rngL a b)[i]? = some (.int (a + i)) := by
  unfold rngL
  rw [List.getElem?_map, List.getElem?_range h]
  rfl
theorem itok_rng {K : PySem.W.Frag} {F : Hp} (a b : Int) : ItOk K (Itr a (b - a).toNat) F (rngL a b) := fun H hs => by
  rw [rngL_length]
  exact ⟨fun i hi => hi, fun i hi => hi, fun i x H' hi ⟨e1, e2⟩ => ⟨e1, _, rngL_get a b hi, by rw [e2]; exact .int _⟩⟩
/-- a list or a tuple, whichever it is -/
def iSeq (K : PySem.W.Frag) (tl : TE) : TI := fun σ H R => tl σ H fun x H1 => ∃ a, x = .ref a ∧ ((∃ xs, SqL K H1 a xs ∧ R (Itl K a) H1) ∨ (∃ xs, SqT K H1 a xs ∧ R (Itt K a) H1))
theorem pi_seq {l : Expr} {tl : TE} (hl : PE X l tl) : PI X tg l (iSeq X.K tl) := by
  refine ⟨fun pins s σ H R I h => ?_⟩
  refine thn (hl.run pins s σ H _ I h) fun v s1 ⟨x, H1, I1, r1, q1⟩ => ?_
  obtain ⟨a, e, q⟩ := q1
  subst e
  cases r1
  rcases q with ⟨xs, hq, q⟩ | ⟨xs, hq, q⟩
  · obtain ⟨its, rv, p, hz⟩ := I1.list hq
    refine wpAny_pyIter_list p.isList ?_
    refine ⟨s1.heap.objs.size, [s1.heap.objs.size], _, _, H1, rfl, I1.kept (t' := s1.toks) fun b o e => Heap.get?_push_of_some _ e, turn_list a _, ⟨_, Heap.get?_push_size _ rfl, rfl, rfl⟩, fun b hb => ?_, q⟩
    have e : b = s1.heap.objs.size := by simpa using hb
    subst e
    exact I1.fpOk (Nat.le_refl _) (I1.hok.fresh (Nat.le_refl _))
  · obtain ⟨its, rv, p, hz⟩ := I1.tuple hq
    refine wpAny_pyIter_tuple (show s1.heap.IsTuple a its.toArray from p) ?_
    refine ⟨s1.heap.objs.size, [s1.heap.objs.size], _, _, H1, rfl, I1.kept (t' := s1.toks) fun b o e => Heap.get?_push_of_some _ e, turn_tuple a _, ⟨_, Heap.get?_push_size _ rfl, rfl, rfl⟩, fun b hb => ?_, q⟩
    have e : b = s1.heap.objs.size := by simpa using hb
    subst e
    exact I1.fpOk (Nat.le_refl _) (I1.hok.fresh (Nat.le_refl _))
/-- what is known of a state: the lengths of the lists in it -/
theorem dp_len {pins : List (Addr × Obj)} {σ : L2.St} {H F : Hp} {s : Shared} {a : Addr} {vs : List V} {ds : List PyData} (I : Inv X pins σ H s) (hs : Same F H) (hd : DpAll X.K F vs ds) (h : SqL X.K F a vs ∨ SqT X.K F a vs) : ds.length ≤ 16777216 := by
  rw [← hd.length, ← line_eq]
  rcases h with h | h
  · obtain ⟨_, _, _, z⟩ := I.list (hs.seq h); exact z
  · obtain ⟨_, _, _, z⟩ := I.tuple (same_t hs h); exact z
theorem ri_seq {e : Expr} {w : WE} (h : RE X e w) : RI X tg e (fun ρ K => w ρ fun r ρ1 => frz ρ1 r fun d ρ2 => match d with
    | .list xs => K xs ρ2
    | .tuple xs => K xs ρ2
    | _ => False) := fun B σ H F G ρ K A q pins s I => by
  refine (pi_seq (pe_of (X := X) (e := e))).run pins s σ H _ I ?_
  intro pins' s' I'
  refine thn (h B σ H F G ρ _ A q pins' s' I') fun v s1 ⟨x, H1, I1, rv, F1, ρ1, r, s1', k1, A1, r1, q1⟩ => ?_
  obtain ⟨F2, ρ2, d, s2, k2, A2, d2, q2⟩ := A1.freeze r1 q1
  cases d2 with
  | lst h1 h2 => exact ⟨_, H1, I1, rv, _, rfl, .inl ⟨_, A2.fh.seq h1, F2, ρ2, _, s1'.trans s2, k1.trans k2, A2, ⟨itok_list h1 h2, dp_len I1 A2.fh h2 (.inl h1)⟩, q2⟩⟩
  | tup h1 h2 => exact ⟨_, H1, I1, rv, _, rfl, .inr ⟨_, same_t A2.fh h1, F2, ρ2, _, s1'.trans s2, k1.trans k2, A2, ⟨itok_tup h1 h2, dp_len I1 A2.fh h2 (.inr h1)⟩, q2⟩⟩
  | _ => exact q2.elim
theorem ri_rng1 {a : Expr} {p pos : Pos} {w : WE} (hg : Gl X "range") (hm : X.mg "range" = none) (h : RE X a w) (hs : starEach [a] X.env = [(false, eval a X.env)]) : RI X tg (.Call (.Name "range" p) [a] [] pos) (fun ρ K => w ρ fun r ρ1 => match r with
    | .val (.int j) => (Small j ∧ j ≤ 16777216) ∧ K (rngL 0 j) ρ1
    | _ => False) := fun B σ H F G ρ K A q => by
  refine of_pi (pi_range1 hg hm (pa_cons pe_of pa_nil hs) hs) ?_
  refine tOf_mono (h B σ H F G ρ _ A q) fun v H1 ⟨F1, ρ1, r, s1, k1, A1, r1, q1⟩ => ?_
  split at q1
  · rename_i j
    cases r1
    obtain ⟨⟨⟨h1, h2⟩, h3⟩, q1⟩ := q1
    refine ⟨j, rfl, by omega, by omega, F1, ρ1, rngL 0 j, s1, k1, A1, ⟨?_, by rw [rngL_length]; omega⟩, q1⟩
    have e := itok_rng (K := X.K) (F := F1) 0 j
    rw [Int.sub_zero] at e
    exact e
  · exact q1.elim
theorem ri_rng2 {a b : Expr} {p pos : Pos} {wa wb : WE} (hg : Gl X "range") (hm : X.mg "range" = none) (ha : RE X a wa) (hb : RE X b wb) (hs : starEach [a, b] X.env = [(false, eval a X.env), (false, eval b X.env)]) (hs2 : starEach [b] X.env = [(false, eval b X.env)]) :
    RI X tg (.Call (.Name "range" p) [a, b] [] pos) (fun ρ K => wa ρ fun r ρ1 => wb ρ1 fun r' ρ2 => match r, r' with
    | .val (.int i), .val (.int j) => (Small i ∧ Small j ∧ j - i ≤ 16777216) ∧ K (rngL i j) ρ2
    | _, _ => False) := fun B σ H F G ρ K A q => by
  refine of_pi (pi_range2 hg hm (pa_cons pe_of (pa_cons pe_of pa_nil hs2) (by rw [hs, hs2])) hs hs2) ?_
  refine tOf_mono (re_two ha hb A q) fun v H1 h1 => tOf_mono h1 fun u H2 ⟨F1, ρ1, x, y, s1, k1, A1, r1, r2, q1⟩ => ?_
  split at q1
  · rename_i i j
    cases r1
    cases r2
    obtain ⟨⟨⟨h1, h2⟩, ⟨h3, h4⟩, h5⟩, q1⟩ := q1
    exact ⟨i, j, rfl, ⟨by omega, by omega, by omega, by omega⟩, F1, ρ1, rngL i j, s1, k1, A1, ⟨itok_rng i j, by rw [rngL_length]; omega⟩, q1⟩
  · exact q1.elim

/-! ### targets -/
theorem rg_one {x : Str} {pos : Pos} {i : Nat} (h : PG X (.Name x pos) (gName i)) (hi : ∀ {σ H pins s}, Inv X pins σ H s → i < σ.length) : RG X (.one i) (.Name x pos) := fun B σ H F G ρ k v d A hd hk pins s u I r => by
  obtain ⟨h1, h2⟩ := setV_not hk
  have hl := hi I
  refine h.run pins s σ H v u _ I r ⟨rfl, ⟨by simp, fun j hj => ?_⟩, _, A.setVal h1 hd hl, Keeps.set (fun z => by cases z), h2⟩
  rw [List.getElem?_set_ne]
  exact fun e => hj (by simp [tgSlots, e])
def RGs (X : Cx) (is : List Nat) (ts : List Expr) : Prop := ∀ B σ H F G ρ k xs ds, Agree X.K B ρ σ H F G → DpAll X.K F xs ds → setVs ρ is ds k →
  ∀ pins s us, Inv X pins σ H s → Vals xs us → wpAny (model X.prog X.w) X.A (assignInOrder ((assignEach ts X.env).map (·.2)) us) (fun _ s' => ∃ σ' H', Inv X pins σ' H' s' ∧ H' = H ∧ (σ'.length = σ.length ∧ ∀ j, j ∉ is → σ'[j]? = σ[j]?) ∧ ∃ ρ', Agree X.K B ρ' σ' H F G ∧ Keeps ρ ρ' ∧ k ρ') X.xe s
theorem rgs_nil : RGs X [] [] := fun B σ H F G ρ k xs ds A hd hk pins s us I r => by
  cases hd with
  | nil =>
    cases r
    exact assignInOrder_nil ⟨σ, H, I, rfl, ⟨rfl, fun _ _ => rfl⟩, ρ, A, Keeps.refl _, hk⟩
  | cons a t => exact (show False from hk).elim
theorem rgs_cons {t : Expr} {ts : List Expr} {i : Nat} {is : List Nat} (h1 : RG X (.one i) t) (h2 : RGs X is ts) (hs : (assignEach (t :: ts) X.env).map (·.2) = assign t X.env :: (assignEach ts X.env).map (·.2)) : RGs X (i :: is) (t :: ts) := fun B σ H F G ρ k xs ds A hd hk pins s us I r => by
  cases hd with
  | nil => exact (show False from hk).elim
  | cons a tl =>
    cases r with
    | cons ra rt =>
      rw [hs]
      rename_i v0 vs0 d0 ds0 u0 us0
      have hk : asgT (.one i) d0 ρ fun ρ1 => setVs ρ1 is ds0 k := hk
      refine assignInOrder_cons (thn (h1 B σ H F G ρ _ _ _ A a hk pins s _ I ra) fun _ s1 ⟨σ1, H1, I1, e, ⟨l1, n1⟩, ρ1, A1, kp1, k1⟩ => ?_)
      subst e
      refine thn (h2 B σ1 H1 F G ρ1 k _ _ A1 tl k1 pins s1 _ I1 rt) fun _ s2 ⟨σ2, H2, I2, e, ⟨l2, n2⟩, ρ2, A2, kp2, k2⟩ => ?_
      refine ⟨σ2, H2, I2, e, ⟨l2.trans l1, fun j hj => ?_⟩, ρ2, A2, kp1.trans kp2, k2⟩
      rw [n2 j (fun z => hj (List.mem_cons_of_mem _ z)), n1 j (fun z => hj ?_)]
      have e2 : j = i := by simpa [tgSlots] using z
      rw [e2]
      exact List.mem_cons_self
theorem rg_tup {es : List Expr} {k0 : Nat} {pos : Pos} {is : List Nat} (hc : X.calm = true) (h : RGs X is es) (hn : (assignEach es X.env).length = is.length) (hst : (assignEach es X.env).findIdx? (·.1) = none) : RG X (.tup is) (.Tuple es k0 pos) := fun B σ H F G ρ k v d A hd hk pins s u I r => by
  unfold asgT at hk
  cases d with
  | tuple ds =>
    cases hd with
    | tup h1 h2 =>
      rename_i a vs
      cases r
      have hl : ∀ {is : List Nat} {ds : List PyData} {ρ : Ev}, setVs ρ is ds k → ds.length = is.length := by
        intro is
        induction is with
        | nil => intro ds ρ h; cases ds with
          | nil => rfl
          | cons _ _ => exact (show False from h).elim
        | cons i is ih => intro ds ρ h; cases ds with
          | nil => exact (show False from h).elim
          | cons d ds =>
            have h : setV ρ i (.val d) fun ρ1 => setVs ρ1 is ds k := h
            rw [List.length_cons, List.length_cons, ih (setV_not h).2]
      obtain ⟨its, rv, ht, hz⟩ := I.tuple (same_t A.fh h1)
      refine assign_Tuple_tuple (I.ok.hd hc) ht (by simp [hn, ← rv.length, h2.length, hl hk]) hst fun h' hx => ?_
      have I1 : Inv X pins σ H { s with heap := h' } := I.kept (t' := s.toks) fun b o e => hx b o (Nat.ne_of_lt (Heap.lt_size e)) e
      refine thn (h B σ H F G ρ k vs ds A h2 hk pins _ its.toArray.toList I1 (by simpa using rv)) fun _ s2 ⟨σ2, H2, I2, e, q⟩ => ?_
      subst e
      exact ⟨σ2, H2, I2, rfl, q⟩
  | _ => exact hk.elim
end

/-! ### blocks -/
theorem wipe_get {σ : L2.St} : ∀ {vs : List Nat} {j : Nat}, (wipe σ vs)[j]? = if j ∈ vs ∧ j < σ.length then some none else σ[j]?
  | [], j => by simp [wipe]
  | v :: vs, j => by
    unfold wipe
    rw [List.getElem?_set, wipe_get, wipe_length]
    by_cases h : v = j
    · subst h
      by_cases hl : v < σ.length
      · simp [hl]
      · simp [hl, List.getElem?_eq_none (Nat.le_of_not_lt hl)]
    · have h' : ¬ j = v := fun e => h e.symm
      simp [h, h']
theorem wipe_same {σ σ' : L2.St} {vs : List Nat} (hl : σ'.length = σ.length) (h : ∀ j, j ∉ vs → σ'[j]? = σ[j]?) : wipe σ' vs = wipe σ vs := by
  apply List.ext_getElem?
  intro j
  rw [wipe_get, wipe_get, hl]
  by_cases hj : j ∈ vs
  · by_cases hlt : j < σ.length
    · simp [hj, hlt]
    · simp [hj, hlt, List.getElem?_eq_none (show σ'.length ≤ j by omega), List.getElem?_eq_none (show σ.length ≤ j by omega)]
  · simp [hj, h j hj]
theorem wipe_wipe {σ : L2.St} {vs : List Nat} : wipe (wipe σ vs) vs = wipe σ vs := wipe_same (wipe_length σ vs) fun j hj => by rw [wipe_get]; simp [hj]
theorem wipeE_len {ρ : Ev} : ∀ {vs : List Nat}, (wipeE ρ vs).length = ρ.length
  | [] => rfl
  | v :: vs => by unfold wipeE; rw [List.length_set, wipeE_len]
theorem wipeE_get {ρ : Ev} : ∀ {vs : List Nat} {j : Nat}, (wipeE ρ vs).get j = if j ∈ vs then .no else ρ.get j
  | [], j => by simp [wipeE]
  | v :: vs, j => by
    unfold wipeE
    rw [get_set', wipeE_len, wipeE_get]
    by_cases h : j = v
    · subst h
      by_cases hl : j < ρ.length
      · simp [hl]
      · simp only [hl, and_false, if_false]
        have : ρ.get j = .no := by
          unfold Ev.get
          rw [List.getD_eq_getElem?_getD, List.getElem?_eq_none (by omega)]; rfl
        simp [this]
    · simp [h]
theorem back_len {ρ0 ρ : Ev} : ∀ {vs : List Nat}, (back ρ0 ρ vs).length = ρ.length
  | [] => rfl
  | v :: vs => by unfold back; rw [List.length_set, back_len]
theorem back_get {ρ0 ρ : Ev} (hl : ρ0.length = ρ.length) : ∀ {vs : List Nat} {j : Nat}, (back ρ0 ρ vs).get j = if j ∈ vs then ρ0.get j else ρ.get j
  | [], j => by simp [back]
  | v :: vs, j => by
    unfold back
    rw [get_set', back_len, back_get hl]
    by_cases h : j = v
    · subst h
      by_cases hj : j < ρ.length
      · simp [hj]
      · simp only [hj, and_false, if_false]
        have e : ∀ ρ' : Ev, ¬ j < ρ'.length → ρ'.get j = .no := fun ρ' z => by
          unfold Ev.get
          rw [List.getD_eq_getElem?_getD, List.getElem?_eq_none (by omega)]; rfl
        simp [e ρ hj, e ρ0 (by omega)]
    · simp [h]
theorem Agree.wiped {K : PySem.W.Frag} {B : Nat → Option Addr} {ρ : Ev} {σ : L2.St} {H F G : Hp} (A : Agree K B ρ σ H F G) {vs : List Nat} (hb : ∀ i a, B i = some a → i ∉ vs) : Agree K B (wipeE ρ vs) (wipe σ vs) H F G := by
  have sg : ∀ j, j ∉ vs → (wipe σ vs)[j]? = σ[j]? := fun j hj => by rw [wipe_get]; simp [hj]
  have ob : ∀ j, isObj (wipeE ρ vs) j → isObj ρ j ∧ j ∉ vs := fun j hj => by
    by_cases h : j ∈ vs
    · unfold isObj at hj
      rw [wipeE_get, if_pos h] at hj
      exact hj.elim
    · exact ⟨isObj_congr (by rw [wipeE_get, if_neg h]) hj, h⟩
  refine ⟨A.fh, A.gh, A.fg, by rw [wipeE_len, wipe_length]; exact A.len, fun j d hj => ?_, fun j o hj => ?_, fun j k a hj hk h1 h2 => ?_, fun j a hj => ?_⟩
  · rw [wipeE_get] at hj
    by_cases h : j ∈ vs
    · rw [if_pos h] at hj; cases hj
    · rw [if_neg h] at hj
      rw [sg j h]
      exact A.val j d hj
  · obtain ⟨_, h⟩ := ob j (isObj_iff.mpr ⟨o, hj⟩)
    rw [wipeE_get, if_neg h] at hj
    rw [sg j h]
    exact A.obj j o hj
  · obtain ⟨o1, n1⟩ := ob j hj
    obtain ⟨o2, n2⟩ := ob k hk
    rw [sg j n1] at h1
    rw [sg k n2] at h2
    exact A.inj j k a o1 o2 h1 h2
  · have h := hb j a hj
    rw [wipeE_get, if_neg h, sg j h]
    exact A.bor j a hj
/-- a new object that waits, whatever slots are stored meanwhile -/
theorem Agree.pendObj {K : PySem.W.Frag} {B : Nat → Option Addr} {ρ : Ev} {σ : L2.St} {H F G : Hp} {o : Ob} {v : V} (A : Agree K B ρ σ H F G) (h : ResR K ρ σ H F G (.obj o) v) : ∃ G', Same G G' ∧ Agree K B ρ σ H F G' ∧
    ∀ ρ' σ' H' F', Same F F' → Agree K B ρ' σ' H' F' G' → ResR K ρ' σ' H' F' G (.obj o) v ∧ Agree K B ρ' σ' H' F' G := by
  obtain ⟨a, ho, rfl, q1, q2, q3, q4, q5⟩ := h
  have sub : Same G (upd G a ho) := fun b o hb => by
    rw [upd_ne (ne_of_none hb q2)]; exact hb
  refine ⟨_, sub, ⟨A.fh, fun b o hb => ?_, fun b o hb => ?_, A.len, A.val, fun j o hj => ?_, A.inj, A.bor⟩, fun ρ' σ' H' F' hf A' => ⟨⟨a, ho, rfl, A'.fg a _ upd_same, q2, fun j hj e => ?_, A'.gh a _ upd_same, q5.mono hf⟩,
    ⟨A'.fh, fun b o hb => A'.gh b o (sub b o hb), fun b o hb => A'.fg b o (sub b o hb), A'.len, A'.val, fun i o hi => ?_, A'.inj, A'.bor⟩⟩⟩
  · by_cases hba : b = a
    · subst hba
      rw [upd_same] at hb
      cases hb
      exact q4
    · rw [upd_ne hba] at hb
      exact A.gh b o hb
  · by_cases hba : b = a
    · subst hba
      exact q1
    · rw [upd_ne hba] at hb
      exact A.fg b o hb
  · obtain ⟨b, ho, z1, z2, z3, z4⟩ := A.obj j o hj
    have hba : b ≠ a := fun y => by
      subst y
      exact q3 j (isObj_iff.mpr ⟨o, hj⟩) z1
    exact ⟨b, ho, z1, z2, by rw [upd_ne hba]; exact z3, z4⟩
  · obtain ⟨o', ho'⟩ := isObj_iff.mp hj
    obtain ⟨b, ho2, z1, z2, z3, z4⟩ := A'.obj j o' ho'
    rw [z1] at e
    cases e
    rw [upd_same] at z3
    cases z3
  · obtain ⟨b, ho, z1, z2, z3, z4⟩ := A'.obj i o hi
    exact ⟨b, ho, z1, z2, sub.free z3, z4⟩
/-- the new list that waits, changed -/
theorem Agree.updFresh {K : PySem.W.Frag} {B : Nat → Option Addr} {ρ : Ev} {σ : L2.St} {H F G : Hp} {o o' : Ob} {D : Addr} {ho' : HO} (A : Agree K B ρ σ H F G) (h : ResR K ρ σ H F G (.obj o) (.ref D)) (h' : ObH K F ho' o') :
    Agree K B ρ σ (upd H D ho') F G ∧ ResR K ρ σ (upd H D ho') F G (.obj o') (.ref D) := by
  obtain ⟨a, ho, e, q1, q2, q3, q4, q5⟩ := h
  cases e
  refine ⟨⟨fun b u hb => ?_, fun b u hb => ?_, A.fg, A.len, A.val, fun j ob hj => ?_, A.inj, A.bor⟩, D, ho', rfl, q1, q2, q3, upd_same, h'⟩
  · rw [upd_ne (ne_of_none hb q1)]; exact A.fh b u hb
  · rw [upd_ne (ne_of_none hb q2)]; exact A.gh b u hb
  · obtain ⟨b, ho, z1, z2, z3, z4, z5⟩ := A.obj j ob hj
    have hba : b ≠ D := fun y => by
      subst y
      exact q3 j (isObj_iff.mpr ⟨ob, hj⟩) z1
    exact ⟨b, ho, z1, z2, z3, by rw [upd_ne hba]; exact z4, z5⟩
theorem ResR.objWipe {K : PySem.W.Frag} {ρ : Ev} {σ : L2.St} {H F G : Hp} {o : Ob} {v : V} (h : ResR K ρ σ H F G (.obj o) v) (vs : List Nat) : ResR K (wipeE ρ vs) (wipe σ vs) H F G (.obj o) v := by
  obtain ⟨a, ho, e, q1, q2, q3, q4, q5⟩ := h
  refine ⟨a, ho, e, q1, q2, fun j hj z => ?_, q4, q5⟩
  by_cases hv : j ∈ vs
  · unfold isObj at hj
    rw [wipeE_get, if_pos hv] at hj
    exact hj
  · rw [wipe_get] at z
    simp [hv] at z
    exact q3 j (isObj_congr (by rw [wipeE_get, if_neg hv]) hj) z

/-! ### tests of a clause -/
def tTsOf (X : Cx) (ifs : List Expr) : TT := fun σ H Q => ∀ pins s, Inv X pins σ H s → wpAny (model X.prog X.w) X.A (forIn ifs true fun c r => if r = true then do let ok ← isTrue c X.env (eval c X.env); pure (ForInStep.yield ok) else pure (ForInStep.yield r)) (TP X pins σ Q) X.xe s
def RTs (X : Cx) (ifs : List Expr) (w : Ev → (Bool → Ev → Prop) → Prop) : Prop := ∀ B σ H F G ρ K, Agree X.K B ρ σ H F G → w ρ K →
  tTsOf X ifs σ H fun b H' => ∃ F' ρ', Same F F' ∧ Keeps ρ ρ' ∧ Agree X.K B ρ' σ H' F' G ∧ K b ρ'
theorem tTsOf_mono {X : Cx} {ifs : List Expr} {σ H} {Q Q' : Bool → Hp → Prop} (h : tTsOf X ifs σ H Q) (hQ : ∀ v H', Q v H' → Q' v H') : tTsOf X ifs σ H Q' := fun pins s I =>
  thn (h pins s I) fun u s' ⟨H', I', q⟩ => ⟨H', I', hQ _ H' q⟩
theorem rts_nil {X : Cx} : RTs X [] (fun ρ K => K true ρ) := fun B σ H F G ρ K A w pins s I => pts_nil.run pins s σ H _ I ⟨F, ρ, Same.refl _, Keeps.refl _, A, w⟩
theorem rts_one {X : Cx} {c : Expr} {w : Ev → (Bool → Ev → Prop) → Prop} (h : RT X c w) : RTs X [c] w := fun B σ H F G ρ K A q pins s I => (pts_one pt_of).run pins s σ H _ I (h B σ H F G ρ K A q)

/-! ### comprehensions -/
section
variable {X : Cx}
theorem drop_cons {α : Type} {l : List α} {i : Nat} {d : α} (h : l[i]? = some d) : l.drop i = d :: l.drop (i + 1) := by
  obtain ⟨hi, e⟩ := List.getElem?_eq_some_iff.mp h
  rw [List.drop_eq_getElem_cons hi, e]
abbrev Blk (X : Cx) (scope : Scope) (P : Cx → Prop) : Prop := ∀ (s : Shared) (H : Hp) (C : Addr) (cl : List (Str × Addr)) (fp : List Addr), P (X.blk s H scope (compEnvC scope cl C X.env) fp)
def ttBlk (X : Cx) (scope : Scope) (ifs : List Expr) : TT := fun σ H Q => ∀ (s0 : Shared) (H0 : Hp) (C : Addr) (cl : List (Str × Addr)) (fp : List Addr), tTsOf (X.blk s0 H0 scope (compEnvC scope cl C X.env) fp) ifs σ H Q
def teBlk (X : Cx) (scope : Scope) (elt : Expr) : TE := fun σ H Q => ∀ (s0 : Shared) (H0 : Hp) (C : Addr) (cl : List (Str × Addr)) (fp : List Addr), tOf (X.blk s0 H0 scope (compEnvC scope cl C X.env) fp) elt σ H Q
def gBlk (X : Cx) (scope : Scope) (tg : Expr) : TG := fun v σ H Q => ∀ (s0 : Shared) (H0 : Hp) (C : Addr) (cl : List (Str × Addr)) (fp : List Addr), tGOf (X.blk s0 H0 scope (compEnvC scope cl C X.env) fp) tg v σ H Q
theorem gb_of {scope : Scope} {tg : Expr} : Blk X scope fun Y => PG Y tg (gBlk X scope tg) := fun s0 H0 C cl fp => ⟨fun pins s σ H v u Q I r h => h s0 H0 C cl fp pins s u I r⟩
theorem tb_of {scope : Scope} {ifs : List Expr} : Blk X scope fun Y => PTs Y ifs (ttBlk X scope ifs) := fun s0 H0 C cl fp => ⟨fun pins s σ H Q I h => h s0 H0 C cl fp pins s I⟩
theorem eb_of {scope : Scope} {elt : Expr} : Blk X scope fun Y => PE Y elt (teBlk X scope elt) := fun s0 H0 C cl fp => ⟨fun pins s σ H Q I h => h s0 H0 C cl fp pins s I⟩
theorem comp_core {elt tg iter : Expr} {ifs : List Expr} {scope : Scope} {own : List (Str × Nat)} {TG : Tg} {wi : Ev → (List PyData → Ev → Prop) → Prop} {wc : Ev → (Bool → Ev → Prop) → Prop} {we : WE} (hc : X.calm = true) (hN : X.N.Nodup)
    (hi : RI X tg iter wi) (ok : BlkOk X.N X.env.scope scope own) (hg : Blk X scope fun Y => RG Y TG tg) (ht : Blk X scope fun Y => RTs Y ifs wc) (he : Blk X scope fun Y => RE Y elt we) (hsl : ∀ i ∈ tgSlots TG, i ∈ own.map (·.2)) :
    ∀ B σ H F G ρ (K : Rs → Ev → Prop), Agree X.K B ρ σ H F G → (wi ρ fun ds ρ1 => noObj ρ1 (own.map (·.2)) ∧
      wComp (own.map (·.2)) TG wc (fun ρ k => we ρ fun r ρ' => frz ρ' r k) ds (wipeE ρ1 (own.map (·.2))) fun xs ρ2 => K (.obj (.lst xs)) (back ρ1 ρ2 (own.map (·.2)))) →
      ∀ Q : VK, (∀ v H', (∃ F' ρ' r, Same F F' ∧ Keeps ρ ρ' ∧ Agree X.K B ρ' σ H' F' G ∧ ResR X.K ρ' σ H' F' G r v ∧ K r ρ') → Q v H') →
      tLc (tIOf X tg iter) (gBlk X scope tg) (ttBlk X scope ifs) (teBlk X scope elt) (own.map (·.2)) σ H Q := fun B σ H F G ρ K A w Q hQ => by
  intro pins s I
  refine thn (hi B σ H F G ρ _ A w pins s I) fun v s1 hv => thn hv fun itv s2 ⟨it, fp, tn, J, H1, e1, I1, T, st, hfp, q⟩ => ⟨it, fp, tn, J, H1, e1, I1, T, st, hfp, ?_⟩
  obtain ⟨F1, ρ1, ds, sF1, k1, A1, ⟨hJ, hlen⟩, hno, q⟩ := q
  intro D hD
  -- the new list waits
  have hB : ∀ i a, B i = some a → i ∉ own.map (·.2) := fun i a hb hm => by
    obtain ⟨⟨o, ho⟩, _⟩ := A1.bor i a hb
    have z := hno i hm
    rw [ho] at z
    exact z
  have A1w := A1.wiped hB
  have dfr : ∀ {ho o}, ObH X.K F1 ho o → Same H1 (upd H1 D ho) ∧ Agree X.K B (wipeE ρ1 (own.map (·.2))) (wipe σ (own.map (·.2))) (upd H1 D ho) F1 G ∧ ResR X.K (wipeE ρ1 (own.map (·.2))) (wipe σ (own.map (·.2))) (upd H1 D ho) F1 G (.obj o) (.ref D) := fun {ho o} hoo => by
    have sm : Same H1 (upd H1 D ho) := fun b u hb => by rw [upd_ne (ne_of_none hb hD)]; exact hb
    refine ⟨sm, ⟨A1w.fh.trans sm, A1w.gh.trans sm, A1w.fg, A1w.len, A1w.val, fun j ob hj => ?_, A1w.inj, A1w.bor⟩, D, ho, rfl, A1w.fh.free hD, A1w.gh.free hD, fun j hj z => ?_, upd_same, hoo⟩
    · obtain ⟨b, ho, z1, z2, z3, z4, z5⟩ := A1w.obj j ob hj
      exact ⟨b, ho, z1, z2, z3, sm b _ z4, z5⟩
    · obtain ⟨ob, hob⟩ := isObj_iff.mp hj
      obtain ⟨b, ho, z1, z2, z3, z4, z5⟩ := A1w.obj j ob hob
      rw [z] at z1
      cases z1
      rw [hD] at z4
      cases z4
  obtain ⟨_, A2, r2⟩ := dfr (ho := .lst []) (o := .lst []) ⟨[], rfl, .nil⟩
  refine ⟨fun i m H' => m = ds.length - i ∧ i ≤ ds.length ∧ ∃ F' ρ' xs, Same F1 F' ∧ (∀ j, j ∉ own.map (·.2) → ρ1.get j ≠ .no → ρ'.get j ≠ .no) ∧ ρ'.length = ρ1.length ∧ Agree X.K B ρ' (wipe σ (own.map (·.2))) H' F' G ∧
      ResR X.K ρ' (wipe σ (own.map (·.2))) H' F' G (.obj (.lst xs)) (.ref D) ∧ xs.length ≤ i ∧
      wComp (own.map (·.2)) TG wc (fun ρ k => we ρ fun r ρ' => frz ρ' r k) (ds.drop i) ρ' (fun ys ρ2 => K (.obj (.lst (xs ++ ys))) (back ρ1 ρ2 (own.map (·.2)))),
    ⟨ds.length, by simp, Nat.zero_le _, F1, _, [], Same.refl _, fun j hj z => by rw [wipeE_get, if_neg hj]; exact z, wipeE_len, A2, r2, Nat.le_refl _, by simpa using q⟩, ?_⟩
  rintro i m H' ⟨rfl, hile, F', ρ', xs, sF, kp, lp, A', r', hxl, q⟩
  obtain ⟨j1, j2, j3⟩ := hJ H' (sF.trans A'.fh)
  by_cases hlt : i < ds.length
  · -- a turn
    refine .inr ⟨j1 i hlt, fun H'' => ∃ F'' ρ'' xs', Same F1 F'' ∧ (∀ j, j ∉ own.map (·.2) → ρ1.get j ≠ .no → ρ''.get j ≠ .no) ∧ ρ''.length = ρ1.length ∧ Agree X.K B ρ'' (wipe σ (own.map (·.2))) H'' F'' G ∧
      ResR X.K ρ'' (wipe σ (own.map (·.2))) H'' F'' G (.obj (.lst xs')) (.ref D) ∧ xs'.length ≤ i + 1 ∧
      wComp (own.map (·.2)) TG wc (fun ρ k => we ρ fun r ρ' => frz ρ' r k) (ds.drop (i + 1)) ρ'' (fun ys ρ2 => K (.obj (.lst (xs' ++ ys))) (back ρ1 ρ2 (own.map (·.2)))), fun H'' hn => ⟨ds.length - (i + 1), by omega, rfl, hlt, hn⟩, ?_⟩
    intro x H'' hy
    obtain ⟨e, d, hd, hdp⟩ := j3 i x H'' hlt hy
    subst e
    rw [drop_cons hd] at q
    intro s0 H0 C cl fp0
    obtain ⟨G', g1, A'', fin⟩ := A'.pendObj r'
    have q : asgT TG d ρ' fun ρ1' => wc ρ1' fun b ρ2 => if b = true then (fun ρ k => we ρ fun r ρ' => frz ρ' r k) ρ2 fun x ρ3 => wComp (own.map (·.2)) TG wc (fun ρ k => we ρ fun r ρ' => frz ρ' r k) (ds.drop (i + 1)) (wipeE ρ3 (own.map (·.2))) fun zs ρ4 => K (.obj (.lst (xs ++ (x :: zs)))) (back ρ1 ρ4 (own.map (·.2)))
        else wComp (own.map (·.2)) TG wc (fun ρ k => we ρ fun r ρ' => frz ρ' r k) (ds.drop (i + 1)) (wipeE ρ2 (own.map (·.2))) fun zs ρ4 => K (.obj (.lst (xs ++ zs))) (back ρ1 ρ4 (own.map (·.2))) := q
    have hdp' : Dp X.K F' x d := dp_mono sF _ _ hdp
    have rg := hg s0 H0 C cl fp0 B (wipe σ (own.map (·.2))) H'' F' G' ρ' _ x d A'' hdp' q
    intro pins3 s3 u3 I3 rv3
    refine thn (rg pins3 s3 u3 I3 rv3) fun _ s4 ⟨σ2, H2, I4, e2, ⟨l2, n2⟩, ρ2, A2', kp2, q2⟩ => ?_
    subst e2
    have hw : wipe σ2 (own.map (·.2)) = wipe σ (own.map (·.2)) := by
      rw [← wipe_wipe (σ := σ)]
      exact wipe_same l2 fun j hj => n2 j fun z => hj (hsl j z)
    refine ⟨σ2, H2, I4, hw, ?_⟩
    intro s0' H0' C' cl' fp'
    refine tTsOf_mono (ht s0' H0' C' cl' fp' B σ2 H2 F' G' ρ2 _ A2' q2) fun b H3 ⟨F3, ρ3, s3, k3, A3, q3⟩ => ?_
    have len3 : ∀ {ρ : Ev} {H F G : Hp}, Agree X.K B ρ σ2 H F G → ρ.length = ρ1.length := fun {ρ H F G} Aq => by
      rw [Aq.len, l2, wipe_length, A1.len]
    cases b with
    | false =>
      rw [if_neg Bool.false_ne_true] at q3 ⊢
      obtain ⟨f1, f2⟩ := fin ρ3 σ2 H3 F3 s3 A3
      have f3 := f2.wiped hB
      have f4 := f1.objWipe (own.map (·.2))
      rw [hw] at f3 f4
      exact ⟨F3, _, xs, sF.trans s3, fun j hj z => by rw [wipeE_get, if_neg hj]; exact k3 j (kp2 j (kp j hj z)), by rw [wipeE_len]; exact len3 f2, f3, f4, Nat.le_succ_of_le hxl, q3⟩
    | true =>
      rw [if_pos rfl] at q3 ⊢
      intro s0'' H0'' C'' cl'' fp''
      refine tOf_mono (he s0'' H0'' C'' cl'' fp'' B σ2 H3 F3 G' ρ3 _ A3 q3) fun y H4 ⟨F4, ρ4, r, s4, k4, A4, r4, q4⟩ => ?_
      obtain ⟨F5, ρ5, dd, s5, k5, A5, d5, q5⟩ := A4.freeze r4 q4
      obtain ⟨f1, f2⟩ := fin ρ5 σ2 H4 F5 ((s3.trans s4).trans s5) A5
      obtain ⟨aD, ho, eD, _, _, _, hD4, acc, rfl, hacc⟩ := id f1
      cases eD
      have el := hacc.length
      refine ⟨acc, hD4, by rw [line_eq]; omega, ?_⟩
      obtain ⟨f3, f4⟩ := f2.updFresh (o' := .lst (xs ++ [dd])) (ho' := .lst (acc ++ [y])) f1 ⟨_, rfl, hacc.append (.cons d5 .nil)⟩
      have f5 := f3.wiped hB
      have f6 := f4.objWipe (own.map (·.2))
      rw [hw] at f5 f6
      refine ⟨F5, _, xs ++ [dd], ((sF.trans s3).trans s4).trans s5, fun j hj z => by rw [wipeE_get, if_neg hj]; exact k5 j (k4 j (k3 j (kp2 j (kp j hj z)))), by rw [wipeE_len]; exact len3 f3, f5, f6, by rw [List.length_append]; show xs.length + 1 ≤ i + 1; omega, ?_⟩
      have ee : (fun (ys : List PyData) (ρ2 : Ev) => K (.obj (.lst ((xs ++ [dd]) ++ ys))) (back ρ1 ρ2 (own.map (·.2)))) = fun ys ρ2 => K (.obj (.lst (xs ++ (dd :: ys)))) (back ρ1 ρ2 (own.map (·.2))) := by
        funext ys ρ2
        rw [List.append_assoc]
        rfl
      rw [ee]
      exact q5
  · have e : i = ds.length := by omega
    subst e
    refine .inl ⟨j2 _ (Nat.le_refl _), ?_⟩
    rw [List.drop_length] at q
    have q : K (.obj (.lst (xs ++ []))) (back ρ1 ρ' (own.map (·.2))) := q
    rw [List.append_nil] at q
    have bg : ∀ j, (back ρ1 ρ' (own.map (·.2))).get j = if j ∈ own.map (·.2) then ρ1.get j else ρ'.get j := fun j => back_get lp.symm
    have sg : ∀ j, j ∉ own.map (·.2) → (wipe σ (own.map (·.2)))[j]? = σ[j]? := fun j hj => by rw [wipe_get, if_neg (fun z => hj z.1)]
    have ob : ∀ j, isObj (back ρ1 ρ' (own.map (·.2))) j → isObj ρ' j ∧ j ∉ own.map (·.2) := fun j hj => by
      by_cases h : j ∈ own.map (·.2)
      · have z := hno j h
        unfold isObj at hj
        rw [bg, if_pos h] at hj
        split at hj
        · rename_i e; rw [e] at z; exact z.elim
        · rename_i e; rw [e] at z; exact z.elim
        · exact hj.elim
      · exact ⟨isObj_congr (by rw [bg, if_neg h]) hj, h⟩
    have A3 : Agree X.K B (back ρ1 ρ' (own.map (·.2))) σ H' F' G := by
      refine ⟨A'.fh, A'.gh, A'.fg, by rw [back_len, lp, A1.len], fun j d hj => ?_, fun j o hj => ?_, fun j k a hj hk h1 h2 => ?_, fun j a hj => ?_⟩
      · rw [bg] at hj
        by_cases h : j ∈ own.map (·.2)
        · rw [if_pos h] at hj
          obtain ⟨w, z1, z2⟩ := A1.val j d hj
          exact ⟨w, z1, dp_mono sF _ _ z2⟩
        · rw [if_neg h] at hj
          rw [← sg j h]
          exact A'.val j d hj
      · obtain ⟨_, h⟩ := ob j (isObj_iff.mpr ⟨o, hj⟩)
        rw [bg, if_neg h] at hj
        rw [← sg j h]
        exact A'.obj j o hj
      · obtain ⟨o1, n1⟩ := ob j hj
        obtain ⟨o2, n2⟩ := ob k hk
        rw [← sg j n1] at h1
        rw [← sg k n2] at h2
        exact A'.inj j k a o1 o2 h1 h2
      · have h := hB j a hj
        rw [bg, if_neg h, ← sg j h]
        exact A'.bor j a hj
    refine hQ _ _ ⟨F', _, .obj (.lst xs), sF1.trans sF, fun j hj => ?_, A3, ?_, q⟩
    · have hj1 := k1 j hj
      rw [bg]
      by_cases h : j ∈ own.map (·.2)
      · rw [if_pos h]; exact hj1
      · rw [if_neg h]; exact kp j h hj1
    · obtain ⟨aD, ho, eD, y1, y2, y3, y4, y5⟩ := r'
      refine ⟨aD, ho, eD, y1, y2, fun j hj z => ?_, y4, y5⟩
      obtain ⟨o1, n1⟩ := ob j hj
      rw [← sg j n1] at z
      exact y3 j o1 z
theorem re_comp {elt tg iter : Expr} {ifs : List Expr} {scope : Scope} {own : List (Str × Nat)} {pos : Pos} {TG : Tg} {wi : Ev → (List PyData → Ev → Prop) → Prop} {wc : Ev → (Bool → Ev → Prop) → Prop} {we : WE} (hc : X.calm = true) (hN : X.N.Nodup)
    (hi : RI X tg iter wi) (ok : BlkOk X.N X.env.scope scope own) (hg : Blk X scope fun Y => RG Y TG tg) (ht : Blk X scope fun Y => RTs Y ifs wc) (he : Blk X scope fun Y => RE Y elt we) (hsl : ∀ i ∈ tgSlots TG, i ∈ own.map (·.2)) (hs : ∀ x, foldedSetIterable iter X.env x = pure x) :
    RE X (.ListComp elt [⟨tg, iter, ifs, 0⟩] scope pos) (fun ρ K => wi ρ fun ds ρ1 => noObj ρ1 (own.map (·.2)) ∧
      wComp (own.map (·.2)) TG wc (fun ρ k => we ρ fun r ρ' => frz ρ' r k) ds (wipeE ρ1 (own.map (·.2))) fun xs ρ2 => K (.obj (.lst xs)) (back ρ1 ρ2 (own.map (·.2)))) := fun B σ H F G ρ K A w => by
  refine of_pe (pe_lc (g := gBlk X scope tg) (tt := ttBlk X scope ifs) (te := teBlk X scope elt) hc hN pi_of ok gb_of tb_of eb_of hs) ?_
  exact comp_core hc hN hi ok hg ht he hsl B σ H F G ρ K A w _ fun v H' h => h
end
end Bo

set_option Elab.async false
set_option linter.all false
set_option maxRecDepth 100000
set_option maxHeartbeats 4000000
/-! Bo9: statements. -/
namespace Bo
open PySem PySem.Spec PyProof.Rows L2

theorem noI_tuple_add : typeLookup (.type "tuple") (dunderI "add") = pure none := by rw [typeLookup_type, builtinLookup_eq_fast]; kernel_rfl
section
variable {X : Cx}
theorem iop_catA : OpR X (inplaceOp .Add) (rCatA X.K) := by
  intro pins s σ H x y v u Q I rx ry h
  obtain ⟨a, b, xs, ys, rfl, rfl, ha, hb, hz, q0, q1, q2⟩ := h
  cases rx
  cases ry
  obtain ⟨its, r1, p1, z1⟩ := I.tuple ha
  obtain ⟨its2, r2, p2, z2⟩ := I.tuple hb
  obtain ⟨⟨cls, dd, data, sl⟩, ho, hc, n, hd⟩ := id p1
  obtain ⟨⟨cls2, dd2, data2, sl2⟩, ho2, hc2, n2, hd2⟩ := id p2
  simp only at hc hd hc2 hd2
  subst hc hd hc2 hd2
  have e1 := r1.length
  have e2 := r2.length
  refine inplaceOp_concat p1.typeIs p2.typeIs noI_tuple_add noFill_tuple_add seq_tuple_add ?_
  by_cases hx : xs = []
  · subst hx
    cases r1
    exact call_meets PySem.F.slot_tuple_add ⟨_, ho, rfl⟩ PySem.F.entry_tuple_add (PySem.F.args_tuple_add_2 _ _) (tuple_addW0 a b ([] : List Value).toArray its2.toArray n n2 dd dd2 sl sl2 (by simp)) ⟨ho, ho2, ⟨.ref b, H, I, rfl, q0 rfl⟩⟩
  · have h1 : ¬ its.toArray.isEmpty = true := by
      cases r1 with
      | nil => exact absurd rfl hx
      | cons _ _ => simp
    by_cases hy : ys = []
    · subst hy
      cases r2
      exact call_meets PySem.F.slot_tuple_add ⟨_, ho, rfl⟩ PySem.F.entry_tuple_add (PySem.F.args_tuple_add_2 _ _) (tuple_addW1 a b its.toArray ([] : List Value).toArray n n2 dd dd2 sl sl2 h1 (by simp)) ⟨ho, ho2, ⟨.ref a, H, I, rfl, q1 hx rfl⟩⟩
    · have h2 : ¬ its2.toArray.isEmpty = true := by
        cases r2 with
        | nil => exact absurd rfl hy
        | cons _ _ => simp
      have ea : its.toArray ++ its2.toArray = (its ++ its2).toArray := by simp
      refine call_meets PySem.F.slot_tuple_add ⟨_, ho, rfl⟩ PySem.F.entry_tuple_add (PySem.F.args_tuple_add_2 _ _) (tuple_addW2 a b its.toArray its2.toArray n n2 dd dd2 sl sl2 h1 h2 (by rw [List.size_toArray, List.size_toArray]; omega)) ⟨ho, ho2, ?_⟩
      rw [ea]
      refine ⟨.ref s.heap.objs.size, _, I.laid (t' := s.toks) (o := .tup (xs ++ ys)) (fun b ob q => Heap.get?_push_of_some _ q) (Nat.le_refl _) ?_, rfl, q2 hx hy _ (I.hok.fresh (Nat.le_refl _))⟩
      exact ⟨by rw [List.length_append]; omega, _, r1.append r2, IsTup.new _ _⟩
/-- op= of ints and tuples -/
def ipOk : O2 → Bool
  | .add => true
  | .sub => true
  | _ => false
theorem ip_sound (o : O2) (ho : ipOk o = true) : PIp X (opOf o) fun x y H Q => ∃ (F : Hp) (xd d : PyData) (k : PyData → Prop), Same F H ∧ Dp X.K F x xd ∧ Dp X.K F y d ∧ semO o (.d xd) (.d d) (fun r => onVal r k) ∧ ∀ v H', Fin X.K F H (fun r => onVal r k) v H' → Q v H' := by
  intro pins s σ H x y v u Q I rx ry h
  obtain ⟨F, xd, d, k, hs, ha, hb, hsem, hq⟩ := h
  rcases semO_cases hsem with ⟨i, j, e1, e2, h⟩ | ⟨xs, ys, rfl, e1, e2, hl, hk⟩ | ⟨xs, ys, rfl, e1, e2, hl, hk⟩ | ⟨xs, j, rfl, _⟩ | ⟨xs, j, rfl, _⟩
  · cases e1
    cases e2
    cases ha
    cases hb
    have fin : ∀ n : Int, onVal (.val (.int n)) k → Q (.int n) H := fun n hk => hq _ _ (Fin.here hs (.int n) hk)
    rcases h with ⟨rfl, hk⟩ | ⟨rfl, hk⟩ | ⟨rfl, hm, hk⟩ | ⟨rfl, hm, hk⟩ | ⟨rfl, hm, hk⟩ | ⟨rfl, hm, hk⟩
    · exact ip_add pins s σ H _ _ v u Q I rx ry ⟨i, j, rfl, rfl, fin _ hk⟩
    · exact ip_sub pins s σ H _ _ v u Q I rx ry ⟨i, j, rfl, rfl, fin _ hk⟩
    · cases ho
    · cases ho
    · cases ho
    · cases ho
  · cases e1
    cases e2
    exact iop_catA pins s σ H _ _ v u Q I rx ry (catA_fin hs ha hb hl hk hq)
  · exact (show False from hk).elim
  · cases ho
  · cases ho

/-! ### judgements -/
def DK (K : PySem.W.Frag) (B : Nat → Option Addr) (F G : Hp) (S : SK) : Ends where
  nx := fun σ' H' => ∃ F' ρ', Same F F' ∧ Agree K B ρ' σ' H' F' G ∧ S.nx ρ'
  rt := fun v H' => ∃ F' ρ' σ' r, Same F F' ∧ Agree K B ρ' σ' H' F' G ∧ ResR K ρ' σ' H' F' G r v ∧ (∀ i, r ≠ .slot i) ∧ S.rt r ρ'
  bk := fun σ' H' => ∃ F' ρ', Same F F' ∧ Agree K B ρ' σ' H' F' G ∧ S.bk ρ'
  ct := fun _ _ => False
abbrev WS := Ev → SK → Prop
def RS (X : Cx) (st : Stmt) (w : WS) : Prop := ∀ B σ H F G ρ S, Agree X.K B ρ σ H F G → w ρ S → tSOf X st (DK X.K B F G S) σ H
def RSs (X : Cx) (st : List Stmt) (w : WS) : Prop := ∀ B σ H F G ρ S, Agree X.K B ρ σ H F G → w ρ S → tSsOf X st (DK X.K B F G S) σ H
theorem sp_mono {pins : List (Addr × Obj)} {D D' : Ends} {f : Flow} {s' : Shared} (h : SP X pins D f s') (h1 : ∀ σ H, D.nx σ H → D'.nx σ H) (h2 : ∀ v H, D.rt v H → D'.rt v H) (h3 : ∀ σ H, D.bk σ H → D'.bk σ H) (h4 : ∀ σ H, D.ct σ H → D'.ct σ H) : SP X pins D' f s' := by
  cases f with
  | next => obtain ⟨σ', H', I, q⟩ := h; exact ⟨σ', H', I, h1 _ _ q⟩
  | brk => obtain ⟨σ', H', I, q⟩ := h; exact ⟨σ', H', I, h3 _ _ q⟩
  | cont => obtain ⟨σ', H', I, q⟩ := h; exact ⟨σ', H', I, h4 _ _ q⟩
  | ret u => obtain ⟨v, σ', H', I, r, q⟩ := h; exact ⟨v, σ', H', I, r, h2 _ _ q⟩
theorem tSOf_mono {st : Stmt} {σ H} {D D' : Ends} (h : tSOf X st D σ H) (h1 : ∀ σ H, D.nx σ H → D'.nx σ H) (h2 : ∀ v H, D.rt v H → D'.rt v H) (h3 : ∀ σ H, D.bk σ H → D'.bk σ H) (h4 : ∀ σ H, D.ct σ H → D'.ct σ H) : tSOf X st D' σ H :=
  fun pins s I => thn (h pins s I) fun f s' q => sp_mono q h1 h2 h3 h4
theorem tSsOf_mono {st : List Stmt} {σ H} {D D' : Ends} (h : tSsOf X st D σ H) (h1 : ∀ σ H, D.nx σ H → D'.nx σ H) (h2 : ∀ v H, D.rt v H → D'.rt v H) (h3 : ∀ σ H, D.bk σ H → D'.bk σ H) (h4 : ∀ σ H, D.ct σ H → D'.ct σ H) : tSsOf X st D' σ H :=
  fun pins s I => thn (h pins s I) fun f s' q => sp_mono q h1 h2 h3 h4
theorem DK.rt_mono {K : PySem.W.Frag} {B : Nat → Option Addr} {F F1 G : Hp} {S : SK} (s : Same F F1) {v : V} {H : Hp} (h : (DK K B F1 G S).rt v H) : (DK K B F G S).rt v H := by
  obtain ⟨F', ρ', σ', r, s1, q⟩ := h
  exact ⟨F', ρ', σ', r, s.trans s1, q⟩
theorem DK.bk_mono {K : PySem.W.Frag} {B : Nat → Option Addr} {F F1 G : Hp} {S : SK} (s : Same F F1) {σ : L2.St} {H : Hp} (h : (DK K B F1 G S).bk σ H) : (DK K B F G S).bk σ H := by
  obtain ⟨F', ρ', s1, q⟩ := h
  exact ⟨F', ρ', s.trans s1, q⟩
theorem DK.nx_mono {K : PySem.W.Frag} {B : Nat → Option Addr} {F F1 G : Hp} {S : SK} (s : Same F F1) {σ : L2.St} {H : Hp} (h : (DK K B F1 G S).nx σ H) : (DK K B F G S).nx σ H := by
  obtain ⟨F', ρ', s1, q⟩ := h
  exact ⟨F', ρ', s.trans s1, q⟩
theorem RSs.le {sts : List Stmt} {w : WS} (h : RSs X sts w) {B σ H F F1 G ρ S} (s : Same F F1) (A : Agree X.K B ρ σ H F1 G) (q : w ρ S) : tSsOf X sts (DK X.K B F G S) σ H :=
  tSsOf_mono (h B σ H F1 G ρ S A q) (fun _ _ h => DK.nx_mono s h) (fun _ _ h => DK.rt_mono s h) (fun _ _ h => DK.bk_mono s h) fun _ _ h => h
theorem rss_nil : RSs X [] (fun ρ S => S.nx ρ) := fun B σ H F G ρ S A w => of_pss pss_nil (show tNext (DK X.K B F G S) σ H from ⟨F, ρ, Same.refl _, A, w⟩)
theorem rss_cons {st : Stmt} {sts : List Stmt} {w : WS} {ws : WS} (h : RS X st w) (hs : RSs X sts ws) : RSs X (st :: sts) (fun ρ S => w ρ { S with nx := fun ρ1 => ws ρ1 S }) := fun B σ H F G ρ S A q => by
  refine of_pss (pss_cons ps_of pss_of) ?_
  refine tSOf_mono (h B σ H F G ρ _ A q) (fun σ1 H1 ⟨F1, ρ1, s1, A1, q1⟩ => hs.le s1 A1 q1) (fun _ _ h => h) (fun _ _ h => h) fun _ _ h => h
/-- a result into a slot -/
theorem set_res {K : PySem.W.Frag} {B : Nat → Option Addr} {ρ : Ev} {σ : L2.St} {H F G : Hp} {r : Rs} {v : V} {i : Nat} {k : Ev → Prop} (A : Agree K B ρ σ H F G) (h : ResR K ρ σ H F G r v) (hi : i < σ.length) (q : setR ρ i r k) :
    ∃ F' ρ', Same F F' ∧ Agree K B ρ' (σ.set i (some v)) H F' G ∧ k ρ' := by
  cases r with
  | val d =>
    obtain ⟨h1, h2⟩ := setV_not q
    exact ⟨F, _, Same.refl _, A.setVal h1 h hi, h2⟩
  | obj o =>
    obtain ⟨h1, h2⟩ := setV_not q
    exact ⟨F, _, Same.refl _, A.setObj h1 h hi, h2⟩
  | slot j =>
    obtain ⟨F1, ρ1, d, s1, k1, A1, d1, q1⟩ := A.freeze (k := fun d ρ1 => setV ρ1 i (.val d) k) h q
    obtain ⟨h1, h2⟩ := setV_not q1
    exact ⟨F1, _, s1, A1.setVal h1 d1 hi, h2⟩
theorem rs_set {x : Str} {i : Nat} {e : Expr} {px pos : Pos} {w : WE} (h : RE X e w) (hN : X.N.Nodup) (hi : X.N[i]? = some x) (hx : Loc X.env.scope x) (hf : X.fn x = true ∨ X.env.scope.names.lookup x = some .local) (hs : swapsWith e (some (.Name x px)) pos.line X.env = pure false) :
    RS X (.Assign [.Name x px] e pos) (fun ρ S => w ρ fun r ρ1 => setR ρ1 i r S.nx) := fun B σ H F G ρ S A q pins s I => by
  have hl : i < σ.length := by rw [I.len]; exact (List.getElem?_eq_some_iff.mp hi).1
  refine (ps_set hN hi hx pe_of hs hf).run pins s σ H _ I ?_
  refine tOf_mono (h B σ H F G ρ _ A q) fun v H1 ⟨F1, ρ1, r, s1, k1, A1, r1, q1⟩ => ?_
  obtain ⟨F2, ρ2, s2, A2, q2⟩ := set_res A1 r1 hl q1
  exact ⟨F2, ρ2, s1.trans s2, A2, q2⟩
theorem rs_setLc {y : Str} {i : Nat} {py spos : Pos} {elt tg iter : Expr} {ifs : List Expr} {scope : Scope} {own : List (Str × Nat)} {pos : Pos} {TG : Tg} {wi : Ev → (List PyData → Ev → Prop) → Prop} {wc : Ev → (Bool → Ev → Prop) → Prop} {we : WE} (hc : X.calm = true) (hN : X.N.Nodup)
    (hy : X.N[i]? = some y) (hyl : X.env.scope.names.lookup y = some .local) (hsw : swapsWith (.ListComp elt [⟨tg, iter, ifs, 0⟩] scope pos) (some (.Name y py)) spos.line X.env = pure true)
    (hi : RI X tg iter wi) (ok : BlkOk X.N X.env.scope scope own) (hg : Blk X scope fun Y => RG Y TG tg) (ht : Blk X scope fun Y => RTs Y ifs wc) (he : Blk X scope fun Y => RE Y elt we) (hsl : ∀ i ∈ tgSlots TG, i ∈ own.map (·.2)) (hs : ∀ x, foldedSetIterable iter X.env x = pure x) :
    RS X (.Assign [.Name y py] (.ListComp elt [⟨tg, iter, ifs, 0⟩] scope pos) spos) (fun ρ S => (fun ρ (K : Rs → Ev → Prop) => wi ρ fun ds ρ1 => noObj ρ1 (own.map (·.2)) ∧
      wComp (own.map (·.2)) TG wc (fun ρ k => we ρ fun r ρ' => frz ρ' r k) ds (wipeE ρ1 (own.map (·.2))) fun xs ρ2 => K (.obj (.lst xs)) (back ρ1 ρ2 (own.map (·.2)))) ρ fun r ρ1 => setR ρ1 i r S.nx) := fun B σ H F G ρ S A q pins s I => by
  have hl : i < σ.length := by rw [I.len]; exact (List.getElem?_eq_some_iff.mp hy).1
  refine (ps_setLc hc hN hy hyl hsw (pi_of) ok (gb_of (X := X)) (tb_of (X := X)) (eb_of (X := X)) hs).run pins s σ H _ I ?_
  refine comp_core hc hN hi ok hg ht he hsl B σ H F G ρ (fun r ρ1 => setR ρ1 i r S.nx) A q _ fun v H1 ⟨F1, ρ1, r, s1, k1, A1, r1, q1⟩ => ?_
  obtain ⟨F2, ρ2, s2, A2, q2⟩ := set_res A1 r1 hl q1
  exact ⟨F2, ρ2, s1.trans s2, A2, q2⟩
/-- a, b, .. = e, a tuple -/
theorem rs_setT {tg e : Expr} {pos : Pos} {is : List Nat} {w : WE} (h : RE X e w) (hg : RG X (.tup is) tg) (hs : swapsWithSole [tg] e pos.line X.env = pure false) (hw : swappedStores [tg] e X.env = pure none) (h1 : (assignEach [tg] X.env).map (·.2) = [assign tg X.env]) :
    RS X (.Assign [tg] e pos) (fun ρ S => w ρ fun r ρ1 => match r with
    | .val (.tuple ds) => setVs ρ1 is ds S.nx
    | _ => False) := fun B σ H F G ρ S A q => by
  refine of_ps (ps_asg pe_of pg_of hs hw h1) ?_
  refine tOf_mono (h B σ H F G ρ _ A q) fun v H1 ⟨F1, ρ1, r, s1, k1, A1, r1, q1⟩ => ?_
  split at q1
  · rename_i ds
    have g := hg B σ H1 F1 G ρ1 S.nx v (.tuple ds) A1 r1 q1
    intro pins s u I rv
    refine thn (g pins s u I rv) fun _ s2 ⟨σ2, H2, I2, e2, _, ρ2, A2, _, q2⟩ => ?_
    subst e2
    exact ⟨σ2, H2, I2, F1, ρ2, s1, A2, q2⟩
  · exact q1.elim
/-- operands into slots, one behind the other -/
theorem set_ress {K : PySem.W.Frag} {B : Nat → Option Addr} : ∀ {is : List Nat} {rs : List Rs} {vs : List V} {ρ : Ev} {σ : L2.St} {H F G : Hp} {k : Ev → Prop}, Agree K B ρ σ H F G → Paired (ResR K ρ σ H F G) rs vs → Sep rs vs → (∀ i ∈ is, i < σ.length) → is.Nodup →
    (∀ (i : Nat) r, r ∈ rs → r ≠ .slot i) → setRs ρ is rs k → vs.length = is.length ∧ ∃ F' ρ', Same F F' ∧ Agree K B ρ' ((is.zip vs).foldl (fun σ p => σ.set p.1 (some p.2)) σ) H F' G ∧ k ρ'
  | [], [], vs, ρ, σ, H, F, G, k, A, h, sp, hi, nd, hns, q => by
    cases h
    exact ⟨rfl, F, ρ, Same.refl _, A, q⟩
  | i :: is, r :: rs, v :: vs, ρ, σ, H, F, G, k, A, h, sp, hi, nd, hns, q => by
    cases h with
    | cons r1 t =>
      have hil := hi i List.mem_cons_self
      obtain ⟨n1, n2⟩ := List.nodup_cons.mp nd
      have q : setR ρ i r fun ρ1 => setRs ρ1 is rs k := q
      have sp2 : Sep rs vs := by
        cases r with
        | val d => exact sp
        | slot j => exact sp
        | obj o => exact sp.2
      -- the later results over the new slots
      have later : ∀ {ρ1 : Ev} {F1 : Hp}, Same F F1 → (∀ j, isObj ρ1 j → (j = i ∧ ∃ o, r = .obj o) ∨ (j ≠ i ∧ isObj ρ j)) → Agree K B ρ1 (σ.set i (some v)) H F1 G → (∀ (k : Nat) o, rs[k]? = some (.obj o) → ∀ a, vs[k]? = some (.ref a) → F1 a = none) → Paired (ResR K ρ1 (σ.set i (some v)) H F1 G) rs vs := by
        intro ρ1 F1 s1 hob A1 hF
        have key : ∀ {rs' : List Rs} {vs' : List V}, Paired (ResR K ρ σ H F G) rs' vs' → (∀ r' ∈ rs', ∀ j, r' ≠ .slot j) → (∀ o, r = .obj o → ∀ (k : Nat) o', rs'[k]? = some (.obj o') → vs'[k]? ≠ some v) → (∀ (k : Nat) o, rs'[k]? = some (.obj o) → ∀ a, vs'[k]? = some (.ref a) → F1 a = none) → Paired (ResR K ρ1 (σ.set i (some v)) H F1 G) rs' vs' := by
          intro rs' vs' hp hns' hsep hF'
          induction hp with
          | nil => exact .nil
          | cons r0 t0 ih =>
            rename_i a0 b0 _ _
            refine .cons ?_ (ih (fun r' hr' => hns' r' (List.mem_cons_of_mem _ hr')) (fun o ho k o' hk => hsep o ho (k + 1) o' (by simpa using hk)) fun k o hk a ha => hF' (k + 1) o (by simpa using hk) a (by simpa using ha))
            cases a0 with
            | val d => exact dp_mono s1 _ _ r0
            | slot j => exact absurd rfl (hns' _ List.mem_cons_self j)
            | obj o =>
              obtain ⟨a, ho, rfl, y1, y2, y3, y4, y5⟩ := r0
              refine ⟨a, ho, rfl, hF' 0 o rfl a rfl, y2, fun j hj z => ?_, y4, y5.mono s1⟩
              rcases hob j hj with ⟨rfl, o2, ho2⟩ | ⟨hji, hj2⟩
              · rw [List.getElem?_set_self hil] at z
                have ez : v = V.ref a := Option.some.inj (Option.some.inj z)
                exact hsep o2 ho2 0 o rfl (by rw [ez]; rfl)
              · rw [List.getElem?_set_ne (Ne.symm hji)] at z
                exact y3 j hj2 z
        refine key t (fun r' hr' j => hns j r' (List.mem_cons_of_mem _ hr')) (fun o ho k o' hk => ?_) hF
        subst ho
        exact sp.1 k o' hk
      cases r with
      | slot j => exact absurd rfl (hns j _ List.mem_cons_self)
      | val d =>
        obtain ⟨g1, g2⟩ := setV_not (show setV ρ i (.val d) (fun ρ1 => setRs ρ1 is rs k) from q)
        have A1 := A.setVal g1 r1 hil
        have hi' : i < ρ.length := by rw [A.len]; exact hil
        have L := later (Same.refl _) (fun j hj => by
          by_cases z : j = i
          · subst z
            unfold isObj at hj
            rw [get_set hi', if_pos rfl] at hj
            exact hj.elim
          · exact .inr ⟨z, isObj_congr (by rw [get_set hi', if_neg z]) hj⟩) A1 (fun k o hk a ha => by
          obtain ⟨a', ho, e, y1, _⟩ := pair_at2 t hk ha
          cases e
          exact y1)
        obtain ⟨l1, F2, ρ2, s2, A2, q2⟩ := set_ress (is := is) (rs := rs) (vs := vs) A1 L sp2 (fun j hj => by rw [List.length_set]; exact hi j (List.mem_cons_of_mem _ hj)) n2 (fun j r hr => hns j r (List.mem_cons_of_mem _ hr)) g2
        exact ⟨by rw [List.length_cons, List.length_cons, l1], F2, ρ2, s2, A2, q2⟩
      | obj o =>
        obtain ⟨g1, g2⟩ := setV_not (show setV ρ i (.own o) (fun ρ1 => setRs ρ1 is rs k) from q)
        have A1 := A.setObj g1 r1 hil
        have hi' : i < ρ.length := by rw [A.len]; exact hil
        have L := later (Same.refl _) (fun j hj => by
          by_cases z : j = i
          · exact .inl ⟨z, o, rfl⟩
          · exact .inr ⟨z, isObj_congr (by rw [get_set hi', if_neg z]) hj⟩) A1 (fun k o hk a ha => by
          obtain ⟨a', ho, e, y1, _⟩ := pair_at2 t hk ha
          cases e
          exact y1)
        obtain ⟨l1, F2, ρ2, s2, A2, q2⟩ := set_ress (is := is) (rs := rs) (vs := vs) A1 L sp2 (fun j hj => by rw [List.length_set]; exact hi j (List.mem_cons_of_mem _ hj)) n2 (fun j r hr => hns j r (List.mem_cons_of_mem _ hr)) g2
        exact ⟨by rw [List.length_cons, List.length_cons, l1], F2, ρ2, s2, A2, q2⟩
  | [], _ :: _, _, _, _, _, _, _, _, _, _, _, _, _, _, q => (show False from q).elim
  | _ :: _, [], _, _, _, _, _, _, _, _, _, _, _, _, _, q => (show False from q).elim
  | _ :: _, _ :: _, [], _, _, _, _, _, _, _, h, _, _, _, _, _ => by cases h
end
end Bo

set_option Elab.async false
set_option linter.all false
set_option maxRecDepth 100000
set_option maxHeartbeats 4000000
/-! Bo10: statements, further. -/
namespace Bo
open PySem PySem.Spec PyProof.Rows L2
section
variable {X : Cx}
theorem Agree.grow {K : PySem.W.Frag} {B : Nat → Option Addr} {ρ : Ev} {σ : L2.St} {H H' F G : Hp} (A : Agree K B ρ σ H F G) (s : Same H H') : Agree K B ρ σ H' F G :=
  ⟨A.fh.trans s, A.gh.trans s, A.fg, A.len, A.val, fun i o h => let ⟨a, ho, z1, z2, z3, z4, z5⟩ := A.obj i o h; ⟨a, ho, z1, z2, z3, s a _ z4, z5⟩, A.inj, A.bor⟩
theorem ResR.grow {K : PySem.W.Frag} {ρ : Ev} {σ : L2.St} {H H' F G : Hp} {r : Rs} {v : V} (h : ResR K ρ σ H F G r v) (s : Same H H') : ResR K ρ σ H' F G r v := by
  cases r with
  | val d => exact h
  | slot i => exact h
  | obj o => obtain ⟨a, ho, e, q1, q2, q3, q4, q5⟩ := h; exact ⟨a, ho, e, q1, q2, q3, s a _ q4, q5⟩

/-! ### several slots -/
def setAll (σ : L2.St) (is : List Nat) (vs : List V) : L2.St := (is.zip vs).foldl (fun σ p => σ.set p.1 (some p.2)) σ
theorem rs_parCore {st : Stmt} {es : List Expr} {is : List Nat} {ws : Ev → (List Rs → Ev → Prop) → Prop} (h : ROs X es ws) (nd : is.Nodup) (hil : ∀ {σ H pins s}, Inv X pins σ H s → ∀ i ∈ is, i < σ.length)
    (hp : ∀ D σ H, tAOf X es σ H (fun vs H1 => vs.length = is.length ∧ ∀ H2, Same H1 H2 → D.nx (setAll σ is vs) H2) → tSOf X st D σ H) (hle : es.length = is.length) (hz : es.length ≤ 1000) :
    RS X st (fun ρ S => ws ρ fun rs ρ1 => rs.all notSlot = true ∧ setRs ρ1 is rs S.nx) := fun B σ H F G ρ S A q pins s I => by
  refine hp _ _ _ ?_ pins s I
  refine tAOf_mono (h B σ H F G ρ _ A q) fun vs H1 ⟨F1, ρ1, rs, s1, k1, A1, r1, ⟨sp, ln⟩, hns, q1⟩ => ⟨ln.trans hle, fun H2 hs => ?_⟩
  have hns' : ∀ (i : Nat) r, r ∈ rs → r ≠ .slot i := fun i r hr e => by
    have z := List.all_eq_true.mp hns r hr
    rw [e] at z
    cases z
  obtain ⟨_, F2, ρ2, s2, A2, q2⟩ := set_ress (A1.grow hs) (Paired.mapP r1 fun a b z => z.grow hs) sp (hil I) nd hns' q1
  exact ⟨F2, ρ2, s1.trans s2, A2, q2⟩
theorem par_two {i j : Nat} {x y : Str} {a b : Expr} {px py pt pos : Pos} {kt k2 pt2} (hc : X.calm = true) (hN : X.N.Nodup) (hi : X.N[i]? = some x) (hj : X.N[j]? = some y) (hij : i ≠ j)
    (hx : X.env.scope.names.lookup x = some .local) (hy : X.env.scope.names.lookup y = some .local) (hw : swappedStores [.Tuple [.Name x px, .Name y py] kt pt] (.Tuple [a, b] k2 pt2) X.env = pure (some [x, y]))
    (hs : swapsWithSole [.Tuple [.Name x px, .Name y py] kt pt] (.Tuple [a, b] k2 pt2) pos.line X.env = pure false) : ∀ D σ H, tAOf X [a, b] σ H (fun vs H1 => vs.length = [i, j].length ∧ ∀ H2, Same H1 H2 → D.nx (setAll σ [i, j] vs) H2) →
      tSOf X (.Assign [.Tuple [.Name x px, .Name y py] kt pt] (.Tuple [a, b] k2 pt2) pos) D σ H := fun D σ H h => by
  refine of_ps (ps_par hc hN hi hj hij hx hy pa_of hw hs) ?_
  refine tAOf_mono h fun vs H1 ⟨hl, q⟩ => ?_
  match vs, hl, q with
  | [v, w], _, q => exact ⟨v, w, rfl, q H1 (Same.refl _)⟩
theorem par_three {i j l : Nat} {x y z : Str} {a b c : Expr} {px py pz pt pos : Pos} {kt k2 pt2} (hc : X.calm = true) (hN : X.N.Nodup) (hi : X.N[i]? = some x) (hj : X.N[j]? = some y) (hl : X.N[l]? = some z) (hij : i ≠ j) (hil : i ≠ l) (hjl : j ≠ l)
    (hx : X.env.scope.names.lookup x = some .local) (hy : X.env.scope.names.lookup y = some .local) (hz : X.env.scope.names.lookup z = some .local) (hw : swappedStores [.Tuple [.Name x px, .Name y py, .Name z pz] kt pt] (.Tuple [a, b, c] k2 pt2) X.env = pure (some [x, y, z]))
    (hs : swapsWithSole [.Tuple [.Name x px, .Name y py, .Name z pz] kt pt] (.Tuple [a, b, c] k2 pt2) pos.line X.env = pure false) : ∀ D σ H, tAOf X [a, b, c] σ H (fun vs H1 => vs.length = [i, j, l].length ∧ ∀ H2, Same H1 H2 → D.nx (setAll σ [i, j, l] vs) H2) →
      tSOf X (.Assign [.Tuple [.Name x px, .Name y py, .Name z pz] kt pt] (.Tuple [a, b, c] k2 pt2) pos) D σ H := fun D σ H h => by
  refine of_ps (ps_par3 hc hN hi hj hl hij hil hjl hx hy hz pa_of hw hs) ?_
  refine tAOf_mono h fun vs H1 ⟨hl, q⟩ => ?_
  match vs, hl, q with
  | [v, w, u], _, q => exact ⟨v, w, u, rfl, q H1 (Same.refl _)⟩
def gSets (is : List Nat) : TGs := fun vs σ H Q => vs.length = is.length ∧ Q (setAll σ is vs) H
theorem pgs_sets_nil : PGs X [] (gSets []) := ⟨fun pins s σ H vs us Q I r ⟨hl, q⟩ => by
  cases vs with
  | nil => exact pgs_nil.run pins s σ H [] us Q I r ⟨rfl, q⟩
  | cons _ _ => cases hl⟩
theorem pgs_sets_cons {t : Expr} {ts : List Expr} {i : Nat} {is : List Nat} (h : PG X t (gName i)) (hs : PGs X ts (gSets is)) (he : (assignEach (t :: ts) X.env).map (·.2) = assign t X.env :: (assignEach ts X.env).map (·.2)) : PGs X (t :: ts) (gSets (i :: is)) := ⟨fun pins s σ H vs us Q I r ⟨hl, q⟩ => by
  cases vs with
  | nil => cases hl
  | cons v vs => exact (pgs_cons h hs he).run pins s σ H (v :: vs) us Q I r ⟨v, vs, rfl, by simpa using hl, q⟩⟩
theorem par_tup {ts es : List Expr} {is : List Nat} {kt k2 pt pt2 pos} (hc : X.calm = true) (hg : PGs X ts (gSets is)) (hn : (assignEach ts X.env).length = is.length) (hst : (assignEach ts X.env).findIdx? (·.1) = none) (hz : is.length ≤ 1000)
    (hs : swapsWithSole [.Tuple ts kt pt] (.Tuple es k2 pt2) pos.line X.env = pure false) (hw : swappedStores [.Tuple ts kt pt] (.Tuple es k2 pt2) X.env = pure none) :
    ∀ D σ H, tAOf X es σ H (fun vs H1 => vs.length = is.length ∧ ∀ H2, Same H1 H2 → D.nx (setAll σ is vs) H2) → tSOf X (.Assign [.Tuple ts kt pt] (.Tuple es k2 pt2) pos) D σ H := fun D σ H h => by
  refine of_ps (ps_asg (pe_tup pa_of) (pg_tup hc hg hn hst) hs hw rfl) ?_
  refine tAOf_mono h fun vs H1 ⟨hl, q⟩ => ⟨by rw [hl, line_eq]; omega, fun p hp => ?_⟩
  exact ⟨p, vs, rfl, .of upd_same, hl, hl, q _ fun b o hb => by rw [upd_ne (ne_of_none hb hp)]; exact hb⟩

/-! ### o[i] = e -/
theorem pair_put {K : PySem.W.Frag} {F : Hp} {key : Key} {v : V} {d : PyData} (hd : Dp K F v d) {ws : List (Key × V)} {kvs : List (Key × PyData)} (h : Paired (fun (a : Key × V) (b : Key × PyData) => a.1 = b.1 ∧ Dp K F a.2 b.2) ws kvs) :
    Paired (fun (a : Key × V) (b : Key × PyData) => a.1 = b.1 ∧ Dp K F a.2 b.2) (putK ws key v) (put kvs key d) := by
  have e : (ws.any fun kv => decide (kv.1 = key)) = kvs.any fun kv => decide (kv.1 = key) := by
    rw [valV_any]; exact any_pair h
  have app : ∀ {ws : List (Key × V)} {kvs : List (Key × PyData)}, Paired (fun (a : Key × V) (b : Key × PyData) => a.1 = b.1 ∧ Dp K F a.2 b.2) ws kvs → Paired (fun (a : Key × V) (b : Key × PyData) => a.1 = b.1 ∧ Dp K F a.2 b.2) (ws ++ [(key, v)]) (kvs ++ [(key, d)]) := by
    intro ws kvs h
    induction h with
    | nil => exact .cons ⟨rfl, hd⟩ .nil
    | cons r t ih => exact .cons r ih
  have mp : ∀ {ws : List (Key × V)} {kvs : List (Key × PyData)}, Paired (fun (a : Key × V) (b : Key × PyData) => a.1 = b.1 ∧ Dp K F a.2 b.2) ws kvs → Paired (fun (a : Key × V) (b : Key × PyData) => a.1 = b.1 ∧ Dp K F a.2 b.2) (ws.map fun kv => if kv.1 = key then (kv.1, v) else kv) (kvs.map fun kv => if kv.1 = key then (kv.1, d) else kv) := by
    intro ws kvs h
    induction h with
    | nil => exact .nil
    | cons r t ih =>
      rename_i a b _ _
      refine .cons ?_ ih
      by_cases z : a.1 = key
      · have z2 : b.1 = key := r.1.symm.trans z
        simp only [if_pos z, if_pos z2]
        exact ⟨r.1, hd⟩
      · have z2 : ¬ b.1 = key := fun y => z (r.1.trans y)
        simp only [if_neg z, if_neg z2]
        exact r
  unfold putK put
  rw [e]
  split
  · exact mp h
  · exact app h
def rSetA (K : PySem.W.Frag) : TSet := fun o i v H Q => ∃ (F : Hp) (ob : Ob) (a : Addr) (ho : HO) (di dv : PyData) (k : Ob → Prop), o = .ref a ∧ H a = some ho ∧ ObH K F ho ob ∧ Dp K F i di ∧ Dp K F v dv ∧ semSetI ob di dv k ∧ ∀ ho' ob', ObH K F ho' ob' → k ob' → Q (upd H a ho')
theorem set_sound (hu : X.A.units + 1 < cLine) : PSet X (rSetA X.K) := by
  intro pins s σ H o i v ov iv u Q I ro ri rv h
  obtain ⟨F, ob, a, ho, di, dv, k, rfl, ha, hob, hi, hv, hsem, hq⟩ := h
  unfold semSetI at hsem
  split at hsem
  · obtain ⟨vs, rfl, hvs⟩ := hob
    cases hi
    obtain ⟨j, e, hk⟩ := opt_some hsem
    rw [← hvs.length] at e
    exact set_list pins s σ H _ _ v ov iv u Q I ro ri rv ⟨a, vs, _, j, rfl, rfl, ha, e, hq _ (.lst _) ⟨_, rfl, hvs.set hv j⟩ hk⟩
  · obtain ⟨ws, rfl, hws⟩ := hob
    obtain ⟨key, e, hl, hk⟩ := opt_some hsem
    have ex := toK_kV hi e
    subst ex
    have hl2 : ws.length < sizeLine := by rw [Paired.length hws, line_eq]; exact hl
    exact set_dict hu pins s σ H _ _ v ov iv u Q I ro ri rv ⟨a, _, rfl, DPut.k ha hl2, hq _ (.dic _) ⟨_, rfl, pair_put hv hws⟩ hk⟩
  · exact hsem.elim
theorem var_obj {K : PySem.W.Frag} {B : Nat → Option Addr} {ρ : Ev} {σ : L2.St} {H F G : Hp} {i : Nat} (A : Agree K B ρ σ H F G) (h : isObj ρ i) : ∃ a, σ[i]? = some (some (.ref a)) := by
  obtain ⟨o, ho⟩ := isObj_iff.mp h
  obtain ⟨a, hx, z, _⟩ := A.obj i o ho
  exact ⟨a, z⟩
theorem rs_setI {x : Str} {i : Nat} {ixe e : Expr} {px pt pos : Pos} {wi w : WE} (hu : X.A.units + 1 < cLine) (hv : PE X (.Name x px) (tVar i)) (hi : RE X ixe wi) (h : RE X e w) (hs : swapsWithSole [.Subscript (.Name x px) ixe pt] e pos.line X.env = pure false)
    (hw : swappedStores [.Subscript (.Name x px) ixe pt] e X.env = pure none) (ha : ∀ v, assign (.Subscript (.Name x px) ixe pt) X.env v = (do
      let ov ← holding [v] (eval (.Name x px) X.env)
      let iv ← holding [v, ov] (eval ixe X.env)
      standAt pt
      holding [v, ov, iv] (setItem ov iv v)
      release [v, ov, iv] [])) :
    RS X (.Assign [.Subscript (.Name x px) ixe pt] e pos) (fun ρ S => w ρ fun r ρ1 => frz ρ1 r fun d ρ2 => isObj ρ2 i ∧ wi ρ2 fun r' ρ3 => frz ρ3 r' fun d' ρ4 => objAt ρ4 i fun o c => semSetI o d' d fun o' => S.nx (ρ4.set i (c o'))) := fun B σ H F G ρ S A q => by
  refine of_ps (ps_asg pe_of (pg_sub hv pe_of (set_sound hu) ha) hs hw rfl) ?_
  refine tOf_mono (h B σ H F G ρ _ A q) fun v H1 ⟨F1, ρ1, r, s1, k1, A1, r1, q1⟩ => ?_
  obtain ⟨F2, ρ2, d, s2, k2, A2, d2, hob, q2⟩ := A1.freeze r1 q1
  obtain ⟨a, ea⟩ := var_obj A2 hob
  refine ⟨_, ea, ?_⟩
  refine tOf_mono (hi B σ H1 F2 G ρ2 _ A2 q2) fun v' H2 ⟨F3, ρ3, r', s3, k3, A3, r3, q3⟩ => ?_
  obtain ⟨F4, ρ4, d', s4, k4, A4, d4, q4⟩ := A3.freeze r3 q3
  obtain ⟨o, c, e1, ec, q5⟩ := objAt_cases q4
  have hob4 : ρ4.get i = .own o ∨ ρ4.get i = .bor o := by rcases ec with e | e <;> (subst e; first | exact .inl e1 | exact .inr e1)
  obtain ⟨a', ho, y1, y2, y3, y4, y5⟩ := A4.obj i o hob4
  rw [ea] at y1
  cases y1
  refine ⟨F4, o, a, ho, d', d, _, rfl, y4, y5, d4, dp_mono (s3.trans s4) _ _ d2, q5, fun ho' ob' h1 h2 => ?_⟩
  obtain ⟨A5, _, _⟩ := A4.write e1 ec ea h1
  exact ⟨F4, _, (s1.trans s2).trans (s3.trans s4), A5, h2⟩

/-! ### op= -/
theorem rs_aug {x : Str} {i : Nat} {e : Expr} {o : O2} {px pos : Pos} {w : WE} (ho : ipOk o = true) (hN : X.N.Nodup) (hi : X.N[i]? = some x) (hx : Loc X.env.scope x) (hf : X.fn x = true ∨ X.env.scope.names.lookup x = some .local) (h : RE X e w) :
    RS X (.AugAssign (.Name x px) (opOf o) e pos) (fun ρ S => match ρ.get i with
    | .val x => w ρ fun r ρ1 => frz ρ1 r fun y ρ2 => semO o (.d x) (.d y) fun r' => onVal r' fun z => setV ρ2 i (.val z) S.nx
    | .own (.lst _) => o = .add ∧ w ρ fun r ρ1 => objAt ρ1 i fun ob c => extS ob r fun ob' => S.nx (ρ1.set i (c ob'))
    | _ => False) := fun B σ H F G ρ S A q pins s I => by
  have hl : i < σ.length := by rw [I.len]; exact (List.getElem?_eq_some_iff.mp hi).1
  have q : (match ρ.get i with
    | .val x => w ρ fun r ρ1 => frz ρ1 r fun y ρ2 => semO o (.d x) (.d y) fun r' => onVal r' fun z => setV ρ2 i (.val z) S.nx
    | .own (.lst _) => o = .add ∧ w ρ fun r ρ1 => objAt ρ1 i fun ob c => extS ob r fun ob' => S.nx (ρ1.set i (c ob'))
    | _ => False) := q
  cases eg : ρ.get i with
  | no => rw [eg] at q; exact q.elim
  | bor ob => rw [eg] at q; exact q.elim
  | val x =>
    rw [eg] at q
    obtain ⟨v0, ev, dv⟩ := A.val i x eg
    refine (ps_aug hN hi hx pe_of (ip_sound o ho) hf).run pins s σ H _ I ⟨v0, ev, ?_⟩
    refine tOf_mono (h B σ H F G ρ _ A q) fun v H1 ⟨F1, ρ1, r, s1, k1, A1, r1, q1⟩ => ?_
    obtain ⟨F2, ρ2, d, s2, k2, A2, d2, q2⟩ := A1.freeze r1 q1
    refine ⟨F2, x, d, _, A2.fh, dp_mono (s1.trans s2) _ _ dv, d2, q2, fun z H2 hfin => ?_⟩
    obtain ⟨F3, r3, s3, A3, rr, q3⟩ := A2.fin hfin
    cases r3 with
    | val zd =>
      obtain ⟨g1, g2⟩ := setV_not (show setV ρ2 i (.val zd) S.nx from q3)
      exact ⟨F3, _, (s1.trans s2).trans s3, A3.setVal g1 rr hl, g2⟩
    | slot _ => exact (show False from q3).elim
    | obj _ => exact (show False from q3).elim
  | own ob =>
    rw [eg] at q
    cases ob with
    | dic _ => exact q.elim
    | lst xs0 =>
      obtain ⟨rfl, q'⟩ := q
      obtain ⟨a, ea⟩ := var_obj A (isObj_iff.mpr ⟨_, .inl eg⟩)
      refine (ps_aug hN hi hx pe_of (fun pins s σ H x y v u Q I r1 r2 h => iop_ext pins s σ H x y v u Q I r1 r2 h) hf).run pins s σ H _ I ⟨_, ea, ?_⟩
      refine tOf_mono (h B σ H F G ρ _ A q') fun v H1 ⟨F1, ρ1, r, s1, k1, A1, r1, q1⟩ => ?_
      obtain ⟨o, c, e1, ec, q5⟩ := objAt_cases q1
      have hob4 : ρ1.get i = .own o ∨ ρ1.get i = .bor o := by rcases ec with e | e <;> (subst e; first | exact .inl e1 | exact .inr e1)
      obtain ⟨a', ho, y1, y2, y3, y4, y5⟩ := A1.obj i o hob4
      rw [ea] at y1
      cases y1
      unfold extS at q5
      split at q5
      · rename_i xs ys
        obtain ⟨hz, q5⟩ := q5
        obtain ⟨vs, rfl, hvs⟩ := y5
        obtain ⟨b, ho2, rfl, _, _, _, w4, ws, rfl, hws⟩ := r1
        refine ⟨a, b, vs, ws, rfl, rfl, y4, w4, by rw [hvs.length, hws.length, line_eq]; exact hz, ?_⟩
        obtain ⟨A5, _, _⟩ := A1.write (o' := .lst (xs ++ ys)) e1 ec ea ⟨_, rfl, hvs.append hws⟩
        refine ⟨F1, _, s1, ?_, q5⟩
        have es : σ.set i (some (V.ref a)) = σ := by
          apply List.ext_getElem?
          intro j
          rw [List.getElem?_set]
          by_cases z : i = j
          · subst z; rw [if_pos rfl, if_pos hl, ea]
          · rw [if_neg z]
        rw [es]
        exact A5
      · exact q5.elim
end
end Bo

set_option Elab.async false
set_option linter.all false
set_option maxRecDepth 100000
set_option maxHeartbeats 4000000
/-! Bo11: op= at an item, returns, branches, loops. -/
namespace Bo
open PySem PySem.Spec PyProof.Rows L2
section
variable {X : Cx}
/-- o[i] by values, for op= -/
def rGetA (K : PySem.W.Frag) : V → V → Hp → VK → Prop := fun x y H Q => ∃ (F : Hp) (ob : Ob) (a : Addr) (ho : HO) (j : PyData) (k : PyData → Prop), x = .ref a ∧ H a = some ho ∧ ObH K F ho ob ∧ Dp K F y j ∧ semIx (.o ob) (.d j) k ∧ ∀ v d, Dp K F v d → k d → Q v H
theorem get_lst {pins : List (Addr × Obj)} {s : Shared} {σ : L2.St} {H : Hp} {p : Addr} {xs : List V} {i : Int} {t : Tok} {z : V} {Q : VK} (I : Inv X pins σ H s) (hq : SqL X.K H p xs) (he : atI xs i = some z) (q : Q z H) :
    wpAny (model X.prog X.w) X.A (getItem (.ref p) (.int i t)) (EP X pins σ Q) X.xe s := by
  obtain ⟨its, r, pl, hz⟩ := I.list hq
  obtain ⟨j, h1, h2, h3, h4, h5⟩ := atI_get he
  obtain ⟨w, ew, rw'⟩ := r.get h2
  have hl := r.length
  have hn := line63
  have fin : EP X pins σ Q w s := ⟨z, H, I, rw', q⟩
  by_cases h0 : 0 ≤ i
  · have hj : i.toNat = j := by
      rw [seqIndex_of h0 h5] at h1
      exact Option.some.inj h1
    exact wpAny_getItem_list pl.isList h0 (by omega) (by rw [hj]; simpa using ew) fin
  · have hj : (i + (its.toArray.size : Int)).toNat = j := by
      rw [seqIndex_neg (by omega) h4] at h1
      rw [List.size_toArray, ← hl]
      exact Option.some.inj h1
    exact wpAny_getItem_list_neg pl.isList (by omega) (by rw [List.size_toArray] <;> omega) (by omega) (by rw [hj]; simpa using ew) fin
theorem get_sound (hu : X.A.units + 1 < cLine) : PGet X (rGetA X.K) := by
  intro pins s σ H o i ov iv Q I ro ri h
  obtain ⟨F, ob, a, ho, j, k, rfl, ha, hob, hj, hsem, hq⟩ := h
  cases ro
  rcases semIx_cases hsem with ⟨kvs, d, key, z, e0, e1, e2, e3, hk⟩ | ⟨j', xs, z, e0, e1, e2, hk⟩
  · cases e0
    obtain ⟨ws, rfl, hw⟩ := hob
    have ed : j = d := by cases e1; rfl
    subst ed
    have ex := toK_kV hj e2
    subst ex
    have fp := find_pair (key := key) hw
    rw [e3] at fp
    cases q : valV ws key with
    | none => rw [q] at fp; exact fp.elim
    | some w =>
      rw [q] at fp
      have g := DGet.k (k := key) ha
      rw [q] at g
      exact d_getItem hu I g ri fun w' s' I' rw' => ⟨w, H, I', rw', hq _ _ fp hk⟩
  · cases e0
    cases hj
    obtain ⟨t, rfl⟩ := ri
    cases ob with
    | dic _ => cases e1
    | lst ys =>
      cases e1
      obtain ⟨vs, rfl, hvs⟩ := hob
      obtain ⟨w, w1, w2⟩ := at_get hvs e2
      exact get_lst I (.of ha) w1 (hq _ _ w2 hk)
theorem rs_augI {x : Str} {i : Nat} {ixe e : Expr} {o : O2} {px pt pos : Pos} {wi w : WE} (hip : ipOk o = true) (hu : X.A.units + 1 < cLine) (hv : PE X (.Name x px) (tVar i)) (hi : RE X ixe wi) (h : RE X e w)
    (ha : ∀ ov iv new, augStore ixe ov iv new = (do holding [new, ov, iv] (setItem ov iv new); release [new, ov, iv] []; pure .next)) :
    RS X (.AugAssign (.Subscript (.Name x px) ixe pt) (opOf o) e pos) (fun ρ S => isObj ρ i ∧ wi ρ fun r ρ1 => frz ρ1 r fun j ρ2 => objAt ρ2 i fun ob c => semIx (.o ob) (.d j) fun x =>
      w ρ2 fun r' ρ3 => frz ρ3 r' fun y ρ4 => objAt ρ4 i fun ob' c' => semO o (.d x) (.d y) fun r'' => onVal r'' fun z => semSetI ob' j z fun ob'' => S.nx (ρ4.set i (c' ob''))) := fun B σ H F G ρ S A q => by
  obtain ⟨hob, q⟩ := q
  refine of_ps (ps_augS hv pe_of (get_sound hu) pe_of (ip_sound o hip) (set_sound hu) ha) ?_
  obtain ⟨a, ea⟩ := var_obj A hob
  refine ⟨_, ea, ?_⟩
  refine tOf_mono (hi B σ H F G ρ _ A q) fun v1 H1 ⟨F1, ρ1, r, s1, k1, A1, r1, q1⟩ => ?_
  obtain ⟨F2, ρ2, j, s2, k2, A2, d2, q2⟩ := A1.freeze r1 q1
  obtain ⟨ob, c, e1, ec, q2⟩ := objAt_cases q2
  have hob2 : ρ2.get i = .own ob ∨ ρ2.get i = .bor ob := by rcases ec with e | e <;> (subst e; first | exact .inl e1 | exact .inr e1)
  obtain ⟨a', ho, y1, y2, y3, y4, y5⟩ := A2.obj i ob hob2
  rw [ea] at y1
  cases y1
  refine ⟨F2, ob, a, ho, j, _, rfl, y4, y5, d2, q2, fun v x hx q3 => ?_⟩
  refine tOf_mono (h B σ H1 F2 G ρ2 _ A2 q3) fun v3 H3 ⟨F3, ρ3, r', s3, k3, A3, r3, q4⟩ => ?_
  obtain ⟨F4, ρ4, y, s4, k4, A4, d4, q5⟩ := A3.freeze r3 q4
  obtain ⟨ob', c', e1', ec', q5⟩ := objAt_cases q5
  refine ⟨F4, x, y, _, A4.fh, dp_mono (s3.trans s4) _ _ hx, d4, q5, fun v5 H5 hf => ?_⟩
  obtain ⟨F5, r5, s5, A5, rr5, q6⟩ := A4.fin hf
  cases r5 with
  | slot _ => exact (show False from q6).elim
  | obj _ => exact (show False from q6).elim
  | val z =>
    have hob4 : ρ4.get i = .own ob' ∨ ρ4.get i = .bor ob' := by rcases ec' with e | e <;> (subst e; first | exact .inl e1' | exact .inr e1')
    obtain ⟨a', ho', w1, w2, w3, w4, w5⟩ := A5.obj i ob' hob4
    rw [ea] at w1
    cases w1
    refine ⟨F5, ob', a, ho', j, z, _, rfl, w4, w5, dp_mono (((s3.trans s4)).trans s5) _ _ d2, rr5, q6, fun ho'' ob'' h1 h2 => ?_⟩
    obtain ⟨A6, _, _⟩ := A5.write e1' ec' ea h1
    exact ⟨F5, _, ((s1.trans s2).trans (s3.trans s4)).trans s5, A6, h2⟩

/-! ### small statements -/
theorem rs_ex {e : Expr} {pos : Pos} {w : WE} (h : RE X e w) (hs : swapsWith e none pos.line X.env = pure false) : RS X (.Expr e pos) (fun ρ S => w ρ fun _ ρ1 => S.nx ρ1) := fun B σ H F G ρ S A q => by
  refine of_ps (ps_expr pe_of hs) ?_
  exact tOf_mono (h B σ H F G ρ _ A q) fun v H1 ⟨F1, ρ1, r, s1, k1, A1, r1, q1⟩ => ⟨F1, ρ1, s1, A1, q1⟩
theorem Agree.take {K : PySem.W.Frag} {B : Nat → Option Addr} {ρ : Ev} {σ : L2.St} {H F G : Hp} {i : Nat} {o : Ob} {v : V} (A : Agree K B ρ σ H F G) (e : ρ.get i = .own o) (hv : σ[i]? = some (some v)) : Agree K B (ρ.set i .no) σ H F G ∧ ResR K (ρ.set i .no) σ H F G (.obj o) v := by
  obtain ⟨a, ho, z1, z2, z3, z4, z5⟩ := A.obj i o (.inl e)
  rw [hv] at z1
  have ev : v = .ref a := Option.some.inj (Option.some.inj z1)
  subst ev
  have hi : i < ρ.length := get_lt (by rw [e]; exact fun z => by cases z)
  have oth : ∀ j, isObj (ρ.set i .no) j → isObj ρ j ∧ j ≠ i := fun j hj => by
    by_cases z : j = i
    · subst z
      unfold isObj at hj
      rw [get_set hi, if_pos rfl] at hj
      exact hj.elim
    · exact ⟨isObj_congr (by rw [get_set hi, if_neg z]) hj, z⟩
  refine ⟨⟨A.fh, A.gh, A.fg, by simpa using A.len, fun j d hj => ?_, fun j o' hj => ?_, fun j k b hj hk => A.inj j k b (oth j hj).1 (oth k hk).1, fun j b hj => ?_⟩, a, ho, rfl, z2, z3, fun j hj z => ?_, z4, z5⟩
  · rw [get_set hi] at hj
    by_cases z : j = i
    · rw [if_pos z] at hj; cases hj
    · rw [if_neg z] at hj; exact A.val j d hj
  · obtain ⟨_, z⟩ := oth j (isObj_iff.mpr ⟨o', hj⟩)
    rw [get_set hi, if_neg z] at hj
    exact A.obj j o' hj
  · obtain ⟨⟨o', q1⟩, q2⟩ := A.bor j b hj
    have z : j ≠ i := fun y => by subst y; rw [e] at q1; cases q1
    exact ⟨⟨o', by rw [get_set hi, if_neg z]; exact q1⟩, q2⟩
  · obtain ⟨o1, z'⟩ := oth j hj
    exact z' (A.inj j i a o1 (isObj_iff.mpr ⟨o, .inl e⟩) z hv)
theorem rs_ret {e : Expr} {pos : Pos} {w : WE} (h : RE X e w) : RS X (.Return (some e) pos) (fun ρ S => w ρ fun r ρ1 => retR ρ1 r S.rt) := fun B σ H F G ρ S A q => by
  refine of_ps (ps_ret pe_of) ?_
  refine tOf_mono (h B σ H F G ρ _ A q) fun v H1 ⟨F1, ρ1, r, s1, k1, A1, r1, q1⟩ => ?_
  cases r with
  | val d => exact ⟨F1, ρ1, σ, .val d, s1, A1, r1, (fun i z => by cases z), q1⟩
  | obj o => exact ⟨F1, ρ1, σ, .obj o, s1, A1, r1, (fun i z => by cases z), q1⟩
  | slot i =>
    have q1 : (match ρ1.get i with
      | .own o => S.rt (.obj o) (ρ1.set i .no)
      | .val d => S.rt (.val d) ρ1
      | _ => False) := q1
    cases eg : ρ1.get i with
    | no => rw [eg] at q1; exact q1.elim
    | bor _ => rw [eg] at q1; exact q1.elim
    | val d =>
      rw [eg] at q1
      obtain ⟨v', z1, z2⟩ := A1.val i d eg
      rw [r1.1] at z1
      cases z1
      exact ⟨F1, ρ1, σ, .val d, s1, A1, z2, (fun i z => by cases z), q1⟩
    | own o =>
      rw [eg] at q1
      obtain ⟨A2, r2⟩ := A1.take eg r1.1
      exact ⟨F1, _, σ, .obj o, s1, A2, r2, (fun i z => by cases z), q1⟩
theorem rs_retN {pos : Pos} : RS X (.Return none pos) (fun ρ S => S.rt (.val .none) ρ) := fun B σ H F G ρ S A q =>
  of_ps ps_retN (show tRetN (DK X.K B F G S) σ H from ⟨F, ρ, σ, .val .none, Same.refl _, A, Dp.non, (fun i z => by cases z), q⟩)
theorem rs_pas {pos : Pos} : RS X (.Pass pos) (fun ρ S => S.nx ρ) := fun B σ H F G ρ S A q => of_ps ps_pass (show tNext (DK X.K B F G S) σ H from ⟨F, ρ, Same.refl _, A, q⟩)
theorem rs_brk {pos : Pos} : RS X (.Break pos) (fun ρ S => S.bk ρ) := fun B σ H F G ρ S A q => of_ps ps_break (show tBreak (DK X.K B F G S) σ H from ⟨F, ρ, Same.refl _, A, q⟩)
theorem rs_if {c : Expr} {a b : List Stmt} {pos : Pos} {wc : Ev → (Bool → Ev → Prop) → Prop} {wa wb : WS} (hc : RT X c wc) (ha : RSs X a wa) (hb : RSs X b wb) : RS X (.If c a b pos) (fun ρ S => wc ρ fun t ρ1 => if t = true then wa ρ1 S else wb ρ1 S) := fun B σ H F G ρ S A q => by
  refine of_ps (ps_if pt_of pss_of pss_of) ?_
  refine tTOf_mono (hc B σ H F G ρ _ A q) fun t H1 ⟨F1, ρ1, s1, k1, A1, q1⟩ => ?_
  cases t with
  | true => exact ha.le s1 A1 q1
  | false => exact hb.le s1 A1 q1
theorem rs_wh {c : Expr} {body : List Stmt} {pos : Pos} {wc : Ev → (Bool → Ev → Prop) → Prop} {wb : WS} (hp : PassesOwn (model X.prog X.w) X.A X.env X.xe) (hc : RT X c wc) (hb : RSs X body wb) :
    RS X (.While c body [] pos) (fun ρ S => ∃ W : Nat → Ev → Prop, (∃ m, W m ρ) ∧ ∀ m ρ, W m ρ → wc ρ fun t ρ1 =>
      if t = true then wb ρ1 { nx := fun ρ2 => ∃ m', m' < m ∧ W m' ρ2, rt := S.rt, bk := S.nx } else S.nx ρ1) := fun B σ H F G ρ S A q => by
  refine of_ps (ps_while hp pt_of pss_of) ?_
  obtain ⟨W, ⟨m0, w0⟩, turn⟩ := q
  refine ⟨fun m σ H => ∃ F' ρ', Same F F' ∧ Agree X.K B ρ' σ H F' G ∧ W m ρ', ⟨m0, F, ρ, Same.refl _, A, w0⟩, ?_⟩
  rintro m σ1 H1 ⟨F1, ρ1, s1, A1, w1⟩
  refine tTOf_mono (hc B σ1 H1 F1 G ρ1 _ A1 (turn m ρ1 w1)) fun t H2 ⟨F2, ρ2, s2, k2, A2, q2⟩ => ?_
  cases t with
  | true =>
    rw [if_pos rfl] at q2 ⊢
    refine ⟨fun σ' H' => ∃ m', m' < m ∧ ∃ F' ρ', Same F F' ∧ Agree X.K B ρ' σ' H' F' G ∧ W m' ρ', fun σ' H' h => h, ?_⟩
    refine tSsOf_mono (hb.le (s1.trans s2) A2 q2) (fun σ3 H3 ⟨F3, ρ3, s3, A3, m', hm, w3⟩ => ⟨m', hm, F3, ρ3, s3, A3, w3⟩) (fun _ _ h => h) (fun _ _ h => h) fun _ _ h => h.elim
  | false =>
    rw [if_neg Bool.false_ne_true] at q2 ⊢
    exact ⟨F2, ρ2, s1.trans s2, A2, q2⟩
theorem rs_fo {tg iter : Expr} {body : List Stmt} {pos : Pos} {TG : Tg} {wi : Ev → (List PyData → Ev → Prop) → Prop} {wb : WS} (hp : PassesOwn (model X.prog X.w) X.A X.env X.xe) (hc : X.calm = true) (hi : RI X tg iter wi) (hg : RG X TG tg) (hb : RSs X body wb)
    (hs : ∀ x, foldedSetIterable iter X.env x = pure x) : RS X (.For tg iter body [] pos) (fun ρ S => wi ρ fun ds ρ1 => wFor TG wb ds ρ1 S) := fun B σ H F G ρ S A q => by
  refine of_ps (ps_for hp hc pi_of pg_of pss_of hs) ?_
  intro pins s I
  refine thn (hi B σ H F G ρ _ A q pins s I) fun v s1 hv => thn hv fun itv s2 ⟨it, fp, tn, J, H1, e1, I1, T, st, hfp, q⟩ => ⟨it, fp, tn, J, H1, e1, I1, T, st, hfp, ?_⟩
  obtain ⟨F1, ρ1, ds, sF1, k1, A1, ⟨hJ, hlen⟩, q⟩ := q
  refine ⟨fun i m σ' H' => m = ds.length - i ∧ i ≤ ds.length ∧ ∃ F' ρ', Same F1 F' ∧ Agree X.K B ρ' σ' H' F' G ∧ wFor TG wb (ds.drop i) ρ' S, ⟨ds.length, by simp, Nat.zero_le _, F1, ρ1, Same.refl _, A1, by simpa using q⟩, ?_⟩
  rintro i m σ1 H' ⟨rfl, hile, F', ρ', sF, A', q⟩
  obtain ⟨j1, j2, j3⟩ := hJ H' (sF.trans A'.fh)
  by_cases hlt : i < ds.length
  · refine .inr ⟨j1 i hlt, fun σ' H' => ∃ F' ρ', Same F1 F' ∧ Agree X.K B ρ' σ' H' F' G ∧ wFor TG wb (ds.drop (i + 1)) ρ' S, fun σ' H' h => ⟨ds.length - (i + 1), by omega, rfl, hlt, h⟩, fun x H'' hy => ?_⟩
    obtain ⟨e, d, hd, hdp⟩ := j3 i x H'' hlt hy
    subst e
    rw [drop_cons hd] at q
    have q : asgT TG d ρ' fun ρ1 => wb ρ1 { nx := fun ρ2 => wFor TG wb (ds.drop (i + 1)) ρ2 S, rt := S.rt, bk := S.nx } := q
    intro pins3 s3 u3 I3 rv3
    refine thn (hg B σ1 H'' F' G ρ' _ x d A' (dp_mono sF _ _ hdp) q pins3 s3 u3 I3 rv3) fun _ s4 ⟨σ2, H2, I4, e2, _, ρ2, A2, _, q2⟩ => ?_
    subst e2
    refine ⟨σ2, H2, I4, ?_⟩
    exact tSsOf_mono (hb.le sF A2 q2) (fun σ3 H3 ⟨F3, ρ3, s3, A3, w3⟩ => ⟨F3, ρ3, s3, A3, w3⟩) (fun v3 H3 ⟨F3, ρ3, σ3, r3, s3, q3⟩ => ⟨F3, ρ3, σ3, r3, sF1.trans s3, q3⟩) (fun σ3 H3 ⟨F3, ρ3, s3, q3⟩ => ⟨F3, ρ3, sF1.trans s3, q3⟩) fun _ _ h => h.elim
  · have e : i = ds.length := by omega
    subst e
    rw [List.drop_length] at q
    exact .inl ⟨j2 _ (Nat.le_refl _), F', ρ', sF1.trans sF, A', q⟩
end
end Bo

set_option Elab.async false
set_option linter.all false
set_option maxRecDepth 100000
set_option maxHeartbeats 8000000
/-! Bo12: the checker, and soundness for expressions. -/
namespace Bo
open PySem PySem.Spec PyProof.Rows L2

/-! ### facts of trees by letters -/
def nstar : Expr → Bool
  | .Starred _ _ => false
  | _ => true
theorem nstar_each {e : Expr} (h : nstar e = true) (es : List Expr) (env : Env) : starEach (e :: es) env = (false, eval e env) :: starEach es env := by
  cases e <;> first | rfl | (cases h; done)
theorem nstar_asg {e : Expr} (h : nstar e = true) (es : List Expr) (env : Env) : assignEach (e :: es) env = (false, assign e env) :: assignEach es env := by
  cases e <;> first | rfl | (cases h; done)
theorem nstar_plain : ∀ {es : List Expr} (h : es.all nstar = true) (pos : Pos) (env : Env), (backTo pos (starEach es env)).any (·.1) = false
  | [], _, _, _ => rfl
  | e :: es, h, pos, env => by
    rw [List.all_cons, Bool.and_eq_true] at h
    have ih := nstar_plain h.2 pos env
    rw [nstar_each h.1]
    unfold backTo at ih ⊢
    rw [List.map_cons, List.any_cons]
    exact ih
def nset : Expr → Bool
  | .Set _ _ _ => false
  | _ => true
theorem nset_fold {e : Expr} (h : nset e = true) (env : Env) (x : Value) : foldedSetIterable e env x = pure x := by
  cases e <;> first | rfl | (cases h; done)
def nslice : Expr → Bool
  | .Slice _ _ _ _ => false
  | _ => true
theorem nslice_ix {e : Expr} (h : nslice e = true) : PlainIx e := by
  intro o i
  cases e <;> first | rfl | (cases h; done)
theorem nslice_aug {e : Expr} (h : nslice e = true) (ov iv new : Value) : augStore e ov iv new = (do holding [new, ov, iv] (setItem ov iv new); release [new, ov, iv] []; pure .next) := by
  cases e <;> first | rfl | (cases h; done)
theorem nslice_asg {o e : Expr} (h : nslice e = true) {pos : Pos} {env : Env} (v : Value) : assign (.Subscript o e pos) env v = (do
      let ov ← holding [v] (eval o env)
      let iv ← holding [v, ov] (eval e env)
      standAt pos
      holding [v, ov, iv] (setItem ov iv v)
      release [v, ov, iv] []) := by
  cases e <;> first | rfl | (cases h; done)
def ncomp : Expr → Bool
  | .ListComp _ _ _ _ => false
  | .SetComp _ _ _ _ => false
  | .DictComp _ _ _ _ _ => false
  | _ => true
theorem ncomp_swap {e : Expr} (h : ncomp e = true) (t : Option Expr) (l : Nat) (env : Env) : swapsWith e t l env = pure false := by
  cases e <;> first | rfl | (cases h; done)
theorem sub_swap {e : Expr} {o i : Expr} {p : Pos} (l : Nat) (env : Env) : swapsWith e (some (.Subscript o i p)) l env = pure false := by
  cases e <;> rfl
theorem tup_swap {e : Expr} {ts : List Expr} {k : Nat} {p : Pos} (l : Nat) (env : Env) : swapsWith e (some (.Tuple ts k p)) l env = pure false := by
  cases e <;> rfl
def ntup : Expr → Bool
  | .Tuple _ _ _ => false
  | _ => true
theorem ntup_swap {e : Expr} (h : ntup e = true) (t : Expr) (env : Env) : swappedStores [t] e env = pure none := by
  cases e <;> first | (cases h; done) | (cases t <;> rfl)
theorem subt_swap {e o i : Expr} {p : Pos} (env : Env) : swappedStores [.Subscript o i p] e env = pure none := by
  cases e <;> rfl
def ntest : Expr → Bool
  | .UnaryOp .Not _ _ => false
  | .BoolOp _ _ _ => false
  | .IfExp _ _ _ _ => false
  | .Compare _ _ _ _ => false
  | _ => true
theorem ntest_true {e : Expr} (h : ntest e = true) (env : Env) (whole : Sem Value) : isTrue e env whole = (do let v ← whole; standAt e.pos; holding [v] (truthy v)) := by
  cases e with
  | UnaryOp op x p => cases op <;> first | rfl | (cases h; done)
  | _ => first | rfl | (cases h; done)
def nife : Expr → Bool
  | .IfExp _ _ _ _ => false
  | _ => true
def nsup : Expr → Bool
  | .Call _ _ _ _ => false
  | _ => true
theorem nsup_base {o : Expr} (h : nsup o = true) (a : Str) (env : Env) (w : Sem Value) : attributeBase o a env w = w := by
  cases o <;> first | rfl | (cases h; done)

/-! ### the checker -/
structure Ck where
  N : List Str
  T : List (Str × Nat)
  G : List (Str × PyData)
  sc : Scope
  fn : Str → Bool
def okN (x : Str) : Bool := decide (x ≠ "__debug__") && decide (x ≠ "__classdict__") && decide (x ≠ "__name__")
def visB (sc : Scope) (x : Str) : Bool := match sc.names.lookup x with
  | some .local => true
  | some .cell => true
  | some .free => true
  | _ => false
def locB (sc : Scope) (fn : Str → Bool) (x : Str) : Bool := match sc.names.lookup x with
  | some .local => true
  | some .cell => fn x
  | _ => false
def glB (sc : Scope) (x : Str) : Bool := match sc.names.lookup x with
  | some .globalImplicit => true
  | _ => false
def nameB (C : Ck) (i : Nat) : Expr → Bool
  | .Name x _ => decide (C.N[i]? = some x) && (visB C.sc x && okN x)
  | _ => false
def stB (C : Ck) (i : Nat) : Expr → Bool
  | .Name x _ => decide (C.N[i]? = some x) && locB C.sc C.fn x
  | _ => false
def constB : Const → PyData → Bool
  | .none, .none => true
  | .bool b, .bool c => b == c
  | .int i, .int j => decide (i = j)
  | .str x, .str y => decide (x = y)
  | _, _ => false
mutual
def eqD : PyData → PyData → Bool
  | .none, .none => true
  | .bool b, .bool c => b == c
  | .int i, .int j => decide (i = j)
  | .str x, .str y => decide (x = y)
  | .list xs, .list ys => eqDs xs ys
  | .tuple xs, .tuple ys => eqDs xs ys
  | _, _ => false
def eqDs : List PyData → List PyData → Bool
  | [], [] => true
  | x :: xs, y :: ys => eqD x y && eqDs xs ys
  | _, _ => false
end
mutual
theorem eqD_ok : ∀ (x y : PyData), eqD x y = true → x = y
  | .none, y, h => by cases y <;> first | rfl | (simp [eqD] at h)
  | .bool b, y, h => by cases y <;> first | (simp [eqD] at h; rw [h]) | (simp [eqD] at h)
  | .int b, y, h => by cases y <;> first | (simp [eqD] at h; rw [h]) | (simp [eqD] at h)
  | .str b, y, h => by cases y <;> first | (simp [eqD] at h; rw [h]) | (simp [eqD] at h)
  | .list xs, y, h => by
    cases y with
    | list ys => rw [eqDs_ok xs ys (by simpa [eqD] using h)]
    | _ => simp [eqD] at h
  | .tuple xs, y, h => by
    cases y with
    | tuple ys => rw [eqDs_ok xs ys (by simpa [eqD] using h)]
    | _ => simp [eqD] at h
  | .dict _, y, h => by cases y <;> simp [eqD] at h
theorem eqDs_ok : ∀ (xs ys : List PyData), eqDs xs ys = true → xs = ys
  | [], [], _ => rfl
  | [], _ :: _, h => by simp [eqDs] at h
  | _ :: _, [], h => by simp [eqDs] at h
  | x :: xs, y :: ys, h => by
    have h : eqD x y = true ∧ eqDs xs ys = true := by simpa [eqDs] using h
    rw [eqD_ok x y h.1, eqDs_ok xs ys h.2]
end
def bfName : BF → Str
  | .len => "len"
  | .int => "int"
  | .abs => "abs"
  | .sum => "sum"
  | .max => "max"
  | .min => "min"
  | .max2 => "max"
  | .min2 => "min"
  | .sorted => "sorted"
  | .tuple => "tuple"
  | .list => "list"
  | .any => "any"
  | .all => "all"
  | _ => ""
def bNames : List Str := ["len", "int", "abs", "sum", "max", "min", "sorted", "tuple", "list", "any", "all", "isinstance", "bool", "str", "range", "set", "dict"]
def rgOut : BF → Str
  | .listRng1 => "list"
  | .listRng2 => "list"
  | .sortedSet => "sorted"
  | _ => ""
def rgIn : BF → Str
  | .listRng1 => "range"
  | .listRng2 => "range"
  | .sortedSet => "set"
  | _ => ""
def bmName : BM → Str
  | .indexT => "index"
  | .indexL => "index"
  | .countT => "count"
  | .countL => "count"
  | .bitLength => "bit_length"
  | .getD => "get"
def mmName : MM → Str
  | .append => "append"
  | .pop => "pop"
  | .popAt => "pop"
  | .reverse => "reverse"
  | .remove => "remove"
def blkCk (C : Ck) (scope : Scope) : Ck := { C with sc := relS scope C.sc, fn := fun x => scope.names.lookup x == some .cell }
def tgNames (C : Ck) : List Nat → List Expr → Bool
  | [], [] => true
  | i :: is, t :: ts => stB C i t && tgNames C is ts
  | _, _ => false
def chkTg (C : Ck) (tg : Tg) (e : Expr) : Bool := match tg, e with
  | .one i, t => stB C i t
  | .tup is, .Tuple ts _ _ => tgNames C is ts
  | _, _ => false
def strOf (s : String) : Str := Str.ofString s
mutual
def chkE : IE → Ck → Expr → Bool
  | .v i, C, e => nameB C i e
  | .g x d, C, e => match e with
    | .Name y _ => decide (y = x) && (glB C.sc y && okN y) && C.G.any fun p => decide (p.1 = y) && eqD p.2 d
    | _ => false
  | .k d, _, e => match e with
    | .Constant c _ _ => constB c d
    | _ => false
  | .op o a b, C, e => match e with
    | .BinOp l op r _ => decide (op = opOf o) && (chkE a C l && chkE b C r)
    | _ => false
  | .neg a, C, e => match e with
    | .UnaryOp .USub l _ => chkE a C l
    | _ => false
  | .cmp c a b, C, e => match e with
    | .Compare l [op] [r] _ => (decide (op = cOf c) && !behindInMarks op r) && (chkE a C l && chkE b C r)
    | _ => false
  | .isN ng a, C, e => match e with
    | .Compare l [op] [.Constant .none _ _] _ => decide (op = if ng then .IsNot else .Is) && chkE a C l
    | _ => false
  | .ch c c' a b d, C, e => match e with
    | .Compare l [op, op'] [m, r] _ => (decide (op = cOf c) && decide (op' = cOf c') && !lastMarks [op, op'] [m, r]) && (chkE a C l && (chkE b C m && chkE d C r))
    | _ => false
  | .nt a, C, e => match e with
    | .UnaryOp .Not l _ => nife l && chkE a C l
    | _ => false
  | .bo isAnd es, C, e => match e with
    | .BoolOp op vs _ => decide (op = bopOf isAnd) && (vs.all nife && chkEs es C vs)
    | _ => false
  | .ife c a b, C, e => match e with
    | .IfExp t l r _ => (nife t && chkE c C t) && (chkE a C l && chkE b C r)
    | _ => false
  | .tup es, C, e => match e with
    | .Tuple vs _ _ => chkEs es C vs
    | _ => false
  | .lst es, C, e => match e with
    | .List vs _ => chkEs es C vs
    | _ => false
  | .dnew, _, e => match e with
    | .Dict [] [] _ => true
    | _ => false
  | .ix a i, C, e => match e with
    | .Subscript l s _ => nslice s && (chkE a C l && chkE i C s)
    | _ => false
  | .sl a lo hi, C, e => match e with
    | .Subscript l (.Slice lo' hi' none _) _ => chkE a C l && (chkO lo C lo' && chkO hi C hi')
    | _ => false
  | .call f es, C, e => match e with
    | .Call (.Name x _) (a :: as) [] _ => (decide (C.T[f]? = some (x, (a :: as).length)) && (glB C.sc x && okN x)) && chkEs es C (a :: as)
    | _ => false
  | .bf f es, C, e => match isTy f with
    | none => match isRg f with
      | none => match e with
        | .Call (.Name x _) (a :: as) [] _ => (decide (x = bfName f) && glB C.sc x) && (bNames.contains x && chkEs es C (a :: as))
        | _ => false
      | some n => match e with
        | .Call (.Name x _) [.Call (.Name y _) as [] _] [] _ => ((decide (x = rgOut f) && glB C.sc x) && (decide (y = rgIn f) && glB C.sc y)) && (match es, as with
          | .cons ea .nil, [a] => decide (n = 1) && (nstar a && chkE ea C a)
          | .cons ea (.cons eb .nil), [a, b] => decide (n = 2) && ((nstar a && chkE ea C a) && (nstar b && chkE eb C b))
          | _, _ => false)
        | _ => false
    | some T => match e with
      | .Call (.Name x _) [a, .Name c _] [] _ => (decide (x = strOf "isinstance") && glB C.sc x) && (decide (c = strOf T) && glB C.sc c) && match es with
        | .cons ea .nil => nstar a && chkE ea C a
        | _ => false
      | _ => false
  | .bm _ _ _, _, _ => false
  | .mut m i es, C, e => match e with
    | .Call (.Attribute (.Name x px) m' apos) as [] cpos => (decide (m' = mmName m) && (apos.endLine == cpos.line) && decide (as.length < 20)) && (nameB C i (.Name x px) && chkEs es C as)
    | _ => false
  | .comp own tg ik its ifs elt, C, e => match e with
    | .ListComp elt' [⟨tg', iter, ifs', k⟩] scope _ => (decide (k = 0) && blkC C.N C.sc scope own && nset iter && (tgSlots tg).all (fun i => (own.map (·.2)).contains i)) && (chkIt ik its C iter && (chkTg (blkCk C scope) tg tg' && (chkC ifs (blkCk C scope) ifs' && chkE elt (blkCk C scope) elt')))
    | _ => false
def chkEs : IEs → Ck → List Expr → Bool
  | .nil, _, [] => true
  | .cons e es, C, x :: xs => nstar x && (chkE e C x && chkEs es C xs)
  | .bor i es, C, x :: xs => nstar x && (nameB C i x && chkEs es C xs)
  | _, _, _ => false
def chkO : IEs → Ck → Option Expr → Bool
  | .nil, _, none => true
  | .cons e .nil, C, some x => chkE e C x
  | _, _, _ => false
def chkC : IEs → Ck → List Expr → Bool
  | .nil, _, [] => true
  | .cons e .nil, C, [x] => nife x && chkE e C x
  | _, _, _ => false
def chkIt : Ik → IEs → Ck → Expr → Bool
  | .rng1, .cons e .nil, C, .Call (.Name x _) [a] [] _ => (decide (x = strOf "range") && glB C.sc x) && (nstar a && chkE e C a)
  | .rng2, .cons e (.cons e' .nil), C, .Call (.Name x _) [a, b] [] _ => (decide (x = strOf "range") && glB C.sc x) && ((nstar a && chkE e C a) && (nstar b && chkE e' C b))
  | .seq, .cons e .nil, C, it => chkE e C it
  | _, _, _, _ => false
end

/-! ### the context -/
structure XOk (X : Cx) (C : Ck) (Γ : Nat → Ct) : Prop where
  hN : X.N = C.N
  nd : C.N.Nodup
  sc : X.env.scope = C.sc
  fn : ∀ x, C.fn x = true → X.fn x = true
  calm : X.calm = true
  kind : C.sc.kind = .function
  xe : X.xe = fun _ _ => False
  hu : X.A.units + 65 < cLine
  free : ∀ x ∈ bNames, X.mg x = none
  fns : ∀ i x n, C.T[i]? = some (x, n) → ∃ k, C8.Cal X.prog X.w X.K X.mg X.base k x (SpOf X.K n (Γ i)) [] ∧ Room k X.A ∧ CtMono (Γ i)
  con : ∀ x d, (x, d) ∈ C.G → ∃ u v, X.mg x = some u ∧ RelV v u ∧ ∀ F, Dp X.K F v d
theorem XOk.blk {X : Cx} {C : Ck} {Γ : Nat → Ct} (h : XOk X C Γ) {scope : Scope} (hk : scope.kind = .function) : Blk X scope fun Y => XOk Y (blkCk C scope) Γ := fun s H Ca cl fp =>
  ⟨h.hN, h.nd, by show relS scope X.env.scope = relS scope C.sc; rw [h.sc], fun x hx => hx, h.calm, hk, rfl, h.hu, h.free, h.fns, h.con⟩
section
variable {X : Cx} {C : Ck} {Γ : Nat → Ct}
theorem and2 {a b : Bool} (h : (a && b) = true) : a = true ∧ b = true := Bool.and_eq_true_iff.mp h
theorem vis_of (h : XOk X C Γ) {x : Str} (q : visB C.sc x = true) : Vis X.env.scope x := by
  unfold visB at q
  rw [← h.sc] at q
  unfold Vis
  split at q
  · exact .inl (by assumption)
  · exact .inr (.inl (by assumption))
  · exact .inr (.inr (by assumption))
  · cases q
theorem gl_of (h : XOk X C Γ) {x : Str} (q : glB C.sc x = true) : Gl X x := by
  unfold glB at q
  rw [← h.sc] at q
  split at q
  · assumption
  · cases q
theorem loc_of (h : XOk X C Γ) {x : Str} (q : locB C.sc C.fn x = true) : L2.Loc X.env.scope x ∧ (X.fn x = true ∨ X.env.scope.names.lookup x = some .local) := by
  unfold locB at q
  rw [← h.sc] at q
  unfold L2.Loc
  split at q
  · rename_i e; exact ⟨.inl e, .inr e⟩
  · rename_i e; exact ⟨.inr e, .inl (h.fn x q)⟩
  · cases q
theorem name_of (h : XOk X C Γ) {i : Nat} {e : Expr} (q : nameB C i e = true) : ∃ x p, e = .Name x p ∧ PE X (.Name x p) (tVar i) := by
  unfold nameB at q
  split at q
  · rename_i x p
    obtain ⟨q1, q2⟩ := and2 q
    obtain ⟨q2, q3⟩ := and2 q2
    obtain ⟨q3, q4⟩ := and2 q3
    obtain ⟨q3, q5⟩ := and2 q3
    exact ⟨x, p, rfl, pe_var (by rw [h.hN]; exact of_decide_eq_true q1) (vis_of h q2) (by simpa using of_decide_eq_true q3) (by simpa using of_decide_eq_true q5)⟩
  · cases q
theorem st_of (h : XOk X C Γ) {i : Nat} {e : Expr} (q : stB C i e = true) : ∃ x p, e = .Name x p ∧ X.N[i]? = some x ∧ L2.Loc X.env.scope x ∧ (X.fn x = true ∨ X.env.scope.names.lookup x = some .local) := by
  unfold stB at q
  split at q
  · rename_i x p
    obtain ⟨q1, q2⟩ := and2 q
    obtain ⟨l1, l2⟩ := loc_of h q2
    exact ⟨x, p, rfl, by rw [h.hN]; exact of_decide_eq_true q1, l1, l2⟩
  · cases q
theorem rg_of_st (h : XOk X C Γ) {i : Nat} {e : Expr} (q : stB C i e = true) : RG X (.one i) e ∧ nstar e = true ∧ PG X e (gName i) ∧ ∀ {σ H pins s}, Inv X pins σ H s → i < σ.length := by
  obtain ⟨x, p, rfl, h1, h2, h3⟩ := st_of h q
  have pg : PG X (.Name x p) (gName i) := pg_name (by rw [h.hN]; exact h.nd) h1 h2 h3
  have hl : ∀ {σ H pins s}, Inv X pins σ H s → i < σ.length := fun I => by rw [I.len]; exact (List.getElem?_eq_some_iff.mp h1).1
  exact ⟨rg_one pg hl, rfl, pg, hl⟩
theorem rgs_of (h : XOk X C Γ) : ∀ {is : List Nat} {ts : List Expr}, tgNames C is ts = true → RGs X is ts ∧ (assignEach ts X.env).length = is.length ∧ (assignEach ts X.env).findIdx? (·.1) = none ∧ PGs X ts (gSets is) ∧ ∀ {σ H pins s}, Inv X pins σ H s → ∀ i ∈ is, i < σ.length
  | [], [], _ => ⟨rgs_nil, rfl, rfl, pgs_sets_nil, fun _ i hi => by simp at hi⟩
  | [], _ :: _, q => by cases q
  | _ :: _, [], q => by cases q
  | i :: is, t :: ts, q => by
    obtain ⟨q1, q2⟩ := and2 (show (stB C i t && tgNames C is ts) = true from q)
    obtain ⟨r1, n1, p1, l1⟩ := rg_of_st h q1
    obtain ⟨r2, e2, f2, p2, l2⟩ := rgs_of h q2
    have ea := nstar_asg n1 ts X.env
    have em : (assignEach (t :: ts) X.env).map (·.2) = assign t X.env :: (assignEach ts X.env).map (·.2) := by rw [ea]; rfl
    refine ⟨rgs_cons r1 r2 em, by rw [ea, List.length_cons, List.length_cons, e2], ?_, pgs_sets_cons p1 p2 em, fun I j hj => ?_⟩
    · rw [ea, List.findIdx?_cons, f2]; rfl
    · rcases List.mem_cons.mp hj with e | e
      · rw [e]; exact l1 I
      · exact l2 I j e
theorem tg_of (h : XOk X C Γ) {tg : Tg} {e : Expr} (q : chkTg C tg e = true) : RG X tg e := by
  unfold chkTg at q
  split at q
  · exact (rg_of_st h q).1
  · obtain ⟨r1, e1, f1, _⟩ := rgs_of h q
    exact rg_tup h.calm r1 e1 f1
  · cases q
theorem const_of {c : Const} {d : PyData} {j : Nat} {pos : Pos} (q : constB c d = true) : ∃ t, PE X (.Constant c j pos) (tC t) ∧ ∀ F, Dp X.K F t d := by
  unfold constB at q
  split at q
  · exact ⟨.non, pe_non, fun F => .non⟩
  · have e := eq_of_beq q
    subst e
    exact ⟨_, pe_bl, fun F => .bl _⟩
  · have e := of_decide_eq_true q
    subst e
    exact ⟨_, pe_int, fun F => .int _⟩
  · have e := of_decide_eq_true q
    subst e
    exact ⟨_, pe_str, fun F => .str _⟩
  · cases q
theorem chkEs_star {C : Ck} : ∀ {es : IEs} {xs : List Expr}, chkEs es C xs = true → xs.all nstar = true
  | .nil, [], _ => rfl
  | .cons e es, x :: xs, h => by
    obtain ⟨h1, h2⟩ := and2 (show (nstar x && (chkE e C x && chkEs es C xs)) = true from h)
    rw [List.all_cons, h1, chkEs_star (and2 h2).2]; rfl
  | .bor i es, x :: xs, h => by
    obtain ⟨h1, h2⟩ := and2 (show (nstar x && (nameB C i x && chkEs es C xs)) = true from h)
    rw [List.all_cons, h1, chkEs_star (and2 h2).2]; rfl
  | .nil, _ :: _, h => by cases h
  | .cons _ _, [], h => by cases h
  | .bor _ _, [], h => by cases h
theorem bf_call {f : BF} (hf : isTy f = none) (hx : bNames.contains (bfName f) = true) {p pos : Pos} {e : Expr} {es : List Expr} (hg : Gl X (bfName f)) (hm : X.mg (bfName f) = none) (hs : starEach (e :: es) X.env = (false, eval e X.env) :: starEach es X.env) (hpl : (backTo pos (starEach es X.env)).any (·.1) = false) :
    ∀ (r : List V → Hp → VK → Prop), CallR X (fVal f) r → PE X (.Call (.Name (bfName f) p) (e :: es) [] pos) (tCB r (tAOf X (e :: es))) := fun r h => by
  cases f <;> first
    | (cases hf; done)
    | exact pe_callB h hg hm (by decide +kernel) pa_of (by decide) (by decide) hs hpl
    | exact pe_callTy h hg hm (by decide +kernel) pa_of (by decide) (by decide) hs hpl
    | exact absurd hx (by decide +kernel)
theorem mut_core0 {e : Expr} {i : Nat} {m : MM} 
    (hp : ∀ Q σ H, tBM0 X.K "list" (rMM X.K m) (tVar i) σ H Q → tOf X e σ H Q) :
    RE X e (fun ρ K => isLst ρ i ∧ objAt ρ i fun o c => semMM m o [] fun o' d => K (.val d) (ρ.set i (c o'))) := fun B σ H F G ρ K A w => by
  refine hp _ _ _ ?_
  obtain ⟨w0, w⟩ := w
  have hl : ∃ xs, ρ.get i = .own (.lst xs) ∨ ρ.get i = .bor (.lst xs) := by
    unfold isLst at w0
    split at w0
    · rename_i q; exact ⟨_, .inl q⟩
    · rename_i q; exact ⟨_, .inr q⟩
    · exact w0.elim
  obtain ⟨xs, hl⟩ := hl
  obtain ⟨a, hx, z1, z2, z3, z4, vs, rfl, z5⟩ := A.obj i _ hl
  refine ⟨_, z1, .inl ⟨rfl, vs, .of z4⟩, ?_⟩
  obtain ⟨o, c, e1, ec, q1⟩ := objAt_cases w
  have hob : ρ.get i = .own o ∨ ρ.get i = .bor o := by rcases ec with e | e <;> (subst e; first | exact .inl e1 | exact .inr e1)
  obtain ⟨a', ho, y1, y2, y3, y4, y5⟩ := A.obj i o hob
  rw [z1] at y1
  cases y1
  refine ⟨F, o, [], a, ho, _, rfl, y4, y5, .nil, q1, fun ho' o' v d h1 h2 h3 => ?_⟩
  obtain ⟨A2, _, _⟩ := A.write e1 ec z1 h1
  refine ⟨F, _, .val d, Same.refl _, Keeps.set ?_, A2, h2, h3⟩
  rcases ec with e | e <;> (subst e; exact fun z => by cases z)
theorem mut_hp0 {x m' : Str} {px apos cpos : Pos} {i : Nat} {m : MM} (hv : PE X (.Name x px) (tVar i)) (hm : m' = mmName m) (hl : (apos.endLine == cpos.line) = true) :
    ∀ Q σ H, tBM0 X.K "list" (rMM X.K m) (tVar i) σ H Q → tOf X (.Call (.Attribute (.Name x px) m' apos) [] [] cpos) σ H Q := fun Q σ H q' => by
  subst hm
  cases m
  · exact of_pe (pe_bm0 PySem.F.plainAttrs_list PySem.F.slot_list_append PySem.F.type_list_append (mm_sound .append) hv (nsup_base rfl _ _ _) hl) q'
  · exact of_pe (pe_bm0 PySem.F.plainAttrs_list PySem.F.slot_list_pop PySem.F.type_list_pop (mm_sound .pop) hv (nsup_base rfl _ _ _) hl) q'
  · exact of_pe (pe_bm0 PySem.F.plainAttrs_list PySem.F.slot_list_pop PySem.F.type_list_pop (mm_sound .popAt) hv (nsup_base rfl _ _ _) hl) q'
  · exact of_pe (pe_bm0 PySem.F.plainAttrs_list PySem.F.slot_list_reverse PySem.F.type_list_reverse (mm_sound .reverse) hv (nsup_base rfl _ _ _) hl) q'
  · exact of_pe (pe_bm0 PySem.F.plainAttrs_list PySem.F.slot_list_remove PySem.F.type_list_remove (mm_sound .remove) hv (nsup_base rfl _ _ _) hl) q'
theorem mut_hp {x m' : Str} {px apos cpos : Pos} {i : Nat} {m : MM} {as : List Expr} (hv : PE X (.Name x px) (tVar i)) (hm : m' = mmName m) (hl : (apos.endLine == cpos.line) = true) (hne : as ≠ []) (hn : as.all nstar = true) (hz : as.length < 20) :
    ∀ Q σ H, tBM X.K "list" (rMM X.K m) (tVar i) (tAOf X as) σ H Q → tOf X (.Call (.Attribute (.Name x px) m' apos) as [] cpos) σ H Q := fun Q σ H q => by
  subst hm
  have fewL : ∀ {as : List Expr}, as.all nstar = true → (backTo cpos (starEach as X.env)).all (fun x => !x.1) = true := fun {as} => by
    induction as with
    | nil => intro _; rfl
    | cons e es ih =>
      intro h
      rw [List.all_cons, Bool.and_eq_true] at h
      rw [nstar_each h.1]
      have := ih h.2
      unfold backTo at this ⊢
      rw [List.map_cons, List.all_cons, this]; rfl
  cases as with
  | nil => exact absurd rfl hne
  | cons e es =>
    have hn' := hn
    rw [List.all_cons, Bool.and_eq_true] at hn
    have few : ((backTo cpos (starEach (e :: es) X.env)).all (fun x => !x.1) && (backToKw cpos (keywordEach [] X.env)).all (fun x => x.1.isSome)
      && decide ((e :: es).length + ([] : List Keyword).length + (if ([] : List Keyword).isEmpty then 0 else 1) < 30)) = true := by
      rw [fewL hn']
      have : (e :: es).length + ([] : List Keyword).length + (if ([] : List Keyword).isEmpty then 0 else 1) < 30 := by
        simp only [List.length_cons, List.length_nil, List.isEmpty_nil, if_true] at hz ⊢
        omega
      rw [decide_eq_true this]; rfl
    cases m
    · exact of_pe (pe_bm PySem.F.plainAttrs_list PySem.F.slot_list_append PySem.F.type_list_append (mm_sound .append) hv pa_of (nsup_base rfl _ _ _) few hl (nstar_each hn.1 _ _) (nstar_plain hn.2 _ _)) q
    · exact of_pe (pe_bm PySem.F.plainAttrs_list PySem.F.slot_list_pop PySem.F.type_list_pop (mm_sound .pop) hv pa_of (nsup_base rfl _ _ _) few hl (nstar_each hn.1 _ _) (nstar_plain hn.2 _ _)) q
    · exact of_pe (pe_bm PySem.F.plainAttrs_list PySem.F.slot_list_pop PySem.F.type_list_pop (mm_sound .popAt) hv pa_of (nsup_base rfl _ _ _) few hl (nstar_each hn.1 _ _) (nstar_plain hn.2 _ _)) q
    · exact of_pe (pe_bm PySem.F.plainAttrs_list PySem.F.slot_list_reverse PySem.F.type_list_reverse (mm_sound .reverse) hv pa_of (nsup_base rfl _ _ _) few hl (nstar_each hn.1 _ _) (nstar_plain hn.2 _ _)) q
    · exact of_pe (pe_bm PySem.F.plainAttrs_list PySem.F.slot_list_remove PySem.F.type_list_remove (mm_sound .remove) hv pa_of (nsup_base rfl _ _ _) few hl (nstar_each hn.1 _ _) (nstar_plain hn.2 _ _)) q
end
end Bo

set_option Elab.async false
set_option linter.all false
set_option maxRecDepth 100000
set_option maxHeartbeats 8000000
/-! Bo13: soundness of the checker for expressions. -/
namespace Bo
open PySem PySem.Spec PyProof.Rows L2
def tst (Γ : Nat → Ct) (ir : IE) : Ev → (Bool → Ev → Prop) → Prop := fun ρ K => wE Γ ir ρ fun r ρ1 => asB r fun b => K b ρ1
def EOk (Γ : Nat → Ct) (ir : IE) : Prop := ∀ {X : Cx} {C : Ck} {e : Expr}, XOk X C Γ → chkE ir C e = true → RE X e (wE Γ ir) ∧ (nife e = true → RT X e (tst Γ ir))
theorem EOk.of {Γ : Nat → Ct} {ir : IE} {X : Cx} {e : Expr} (h : RE X e (wE Γ ir)) (ht : ntest e = true) : RE X e (wE Γ ir) ∧ (nife e = true → RT X e (tst Γ ir)) :=
  ⟨h, fun _ => rt_val h fun whole => ntest_true ht X.env whole⟩
structure LsOk (Γ : Nat → Ct) (es : IEs) : Prop where
  os : ∀ {X : Cx} {C : Ck} {xs : List Expr}, XOk X C Γ → chkEs es C xs = true → ROs X xs (wOs Γ es)
  fs : ∀ {X : Cx} {C : Ck} {xs : List Expr}, XOk X C Γ → chkEs es C xs = true → RFs X xs (wFs Γ es)
  as : ∀ {X : Cx} {C : Ck} {xs : List Expr}, XOk X C Γ → chkEs es C xs = true → RAs X xs (wAs Γ es)
  bo : ∀ {X : Cx} {C : Ck} {xs : List Expr} (isAnd : Bool) (pos : Pos), XOk X C Γ → xs.all nife = true → chkEs es C xs = true →
    RE X (.BoolOp (bopOf isAnd) xs pos) (fun ρ K => wBo Γ isAnd es ρ fun b ρ1 => K (vB b) ρ1) ∧ RW X (.BoolOp (bopOf isAnd) xs pos) (wBo Γ isAnd es)
  on : ∀ {X : Cx} {C : Ck} {xs : Option Expr}, XOk X C Γ → chkO es C xs = true → RP X xs (wPart Γ es)
  cn : ∀ {X : Cx} {C : Ck} {xs : List Expr}, XOk X C Γ → chkC es C xs = true → RTs X xs (wCond Γ es)
  it : ∀ {X : Cx} {C : Ck} {tg e : Expr} (ik : Ik), XOk X C Γ → chkIt ik es C e = true → RI X tg e (wIt Γ ik es)
variable {Γ : Nat → Ct}
theorem sok_v (i : Nat) : EOk Γ (.v i) := fun {X C e} h q => by
  obtain ⟨x, p, rfl, pv⟩ := name_of h q
  refine EOk.of ?_ rfl
  have := re_v pv
  (simp only [wE]; exact this)
theorem sok_g (x : Str) (d : PyData) : EOk Γ (.g x d) := fun {X C e} h q => by
  unfold chkE at q
  split at q
  · rename_i y p
    obtain ⟨q1, q3⟩ := and2 q
    obtain ⟨q1, q2⟩ := and2 q1
    obtain ⟨q2, q4⟩ := and2 q2
    unfold okN at q4
    obtain ⟨q4, q5⟩ := and2 q4
    obtain ⟨q4, q6⟩ := and2 q4
    obtain ⟨⟨y', d'⟩, m1, m2⟩ := List.any_eq_true.mp q3
    obtain ⟨m2, m3⟩ := and2 m2
    have e1 := of_decide_eq_true m2
    simp only at e1
    have e2 := eqD_ok _ _ m3
    simp only at e2
    subst e1 e2
    obtain ⟨u, v, c1, c2, c3⟩ := h.con _ _ m1
    have pg : PE X (.Name y' p) (tC v) := pe_glob (gl_of h q2) c1 c2 (by simpa using of_decide_eq_true q4)
    refine EOk.of ?_ rfl
    have := re_k pg c3
    (simp only [wE]; exact this)
  · cases q
theorem sok_k (d : PyData) : EOk Γ (.k d) := fun {X C e} h q => by
  unfold chkE at q
  split at q
  · obtain ⟨t, p, hd⟩ := const_of (X := X) q
    refine EOk.of ?_ rfl
    have := re_k p hd
    (simp only [wE]; exact this)
  · cases q
theorem sok_op (o : O2) {a b : IE} (ha : EOk Γ a) (hb : EOk Γ b) : EOk Γ (.op o a b) := fun {X C e} h q => by
  unfold chkE at q
  split at q
  · obtain ⟨q1, q2⟩ := and2 q
    obtain ⟨q2, q3⟩ := and2 q2
    have e1 := of_decide_eq_true q1
    subst e1
    refine EOk.of ?_ rfl
    have := re_op (pos := by assumption) o (ha h q2).1 (hb h q3).1
    (simp only [wE]; exact this)
  · cases q
theorem sok_neg {a : IE} (ha : EOk Γ a) : EOk Γ (.neg a) := fun {X C e} h q => by
  unfold chkE at q
  split at q
  · refine EOk.of ?_ rfl
    have := re_neg (pos := by assumption) (ha h q).1
    (simp only [wE]; exact this)
  · cases q
theorem sok_cmp (c : C2) {a b : IE} (ha : EOk Γ a) (hb : EOk Γ b) : EOk Γ (.cmp c a b) := fun {X C e} h q => by
  unfold chkE at q
  split at q
  · obtain ⟨q1, q2⟩ := and2 q
    obtain ⟨q2, q3⟩ := and2 q2
    obtain ⟨q1, q4⟩ := and2 q1
    have e1 := of_decide_eq_true q1
    subst e1
    have hm := Bool.not_eq_true' _ |>.mp q4
    have r := re_cmp (pos := by assumption) h.hu c (ha h q2).1 (hb h q3).1 hm
    have t := rt_cmp (pos := by assumption) h.hu c (ha h q2).1 (hb h q3).1 hm
    refine ⟨by simp only [wE]; exact r, fun _ => ?_⟩
    unfold tst
    simp only [wE]
    exact t
  · cases q
theorem sok_isN (ng : Bool) {a : IE} (ha : EOk Γ a) : EOk Γ (.isN ng a) := fun {X C e} h q => by
  unfold chkE at q
  split at q
  · rename_i l op j p' pos
    obtain ⟨q1, q2⟩ := and2 q
    have e1 := of_decide_eq_true q1
    subst e1
    have r := re_isN (pos := pos) (pos' := p') (j := j) ng (ha h q2).1
    have t := rt_isN (pos := pos) (pos' := p') (j := j) ng (ha h q2).1
    refine ⟨by simp only [wE]; exact r, fun _ => ?_⟩
    unfold tst
    simp only [wE]
    exact t
  · cases q
theorem sok_ch (c c' : C2) {a b d : IE} (ha : EOk Γ a) (hb : EOk Γ b) (hd : EOk Γ d) : EOk Γ (.ch c c' a b d) := fun {X C e} h q => by
  unfold chkE at q
  split at q
  · obtain ⟨q1, q2⟩ := and2 q
    obtain ⟨q2, q3⟩ := and2 q2
    obtain ⟨q3, q5⟩ := and2 q3
    obtain ⟨q1, q4⟩ := and2 q1
    obtain ⟨q1, q6⟩ := and2 q1
    have e1 := of_decide_eq_true q1
    have e2 := of_decide_eq_true q6
    subst e1 e2
    have hm := Bool.not_eq_true' _ |>.mp q4
    have r := re_ch (pos := by assumption) h.hu c c' (ha h q2).1 (hb h q3).1 (hd h q5).1 hm
    have t := rt_ch (pos := by assumption) h.hu c c' (ha h q2).1 (hb h q3).1 (hd h q5).1 hm
    refine ⟨by simp only [wE]; exact r, fun _ => ?_⟩
    unfold tst
    simp only [wE]
    exact t
  · cases q
theorem sok_nt {a : IE} (ha : EOk Γ a) : EOk Γ (.nt a) := fun {X C e} h q => by
  unfold chkE at q
  split at q
  · obtain ⟨q1, q2⟩ := and2 q
    have r := re_nt (pos := by assumption) (ha h q2).1
    have t := rt_nt (pos := by assumption) ((ha h q2).2 q1)
    refine ⟨by simp only [wE]; exact r, fun _ => ?_⟩
    unfold tst at t ⊢
    simp only [wE]
    exact t
  · cases q
theorem sok_ife {c a b : IE} (hc : EOk Γ c) (ha : EOk Γ a) (hb : EOk Γ b) : EOk Γ (.ife c a b) := fun {X C e} h q => by
  unfold chkE at q
  split at q
  · obtain ⟨q1, q2⟩ := and2 q
    obtain ⟨q1, q3⟩ := and2 q1
    obtain ⟨q2, q4⟩ := and2 q2
    have r := re_ife (pos := by assumption) ((hc h q3).2 q1) (ha h q2).1 (hb h q4).1
    refine ⟨?_, fun z => by cases z⟩
    unfold tst at r
    simp only [wE]
    exact r
  · cases q
theorem sok_bo (isAnd : Bool) {es : IEs} (he : LsOk Γ es) : EOk Γ (.bo isAnd es) := fun {X C e} h q => by
  unfold chkE at q
  split at q
  · obtain ⟨q1, q2⟩ := and2 q
    obtain ⟨q2, q3⟩ := and2 q2
    have e1 := of_decide_eq_true q1
    subst e1
    obtain ⟨r, t⟩ := he.bo isAnd (by assumption) h q2 q3
    refine ⟨by simp only [wE]; exact r, fun _ => ?_⟩
    unfold tst
    simp only [wE]
    exact t.rt
  · cases q
theorem sok_tup {es : IEs} (he : LsOk Γ es) : EOk Γ (.tup es) := fun {X C e} h q => by
  unfold chkE at q
  split at q
  · refine EOk.of ?_ rfl
    have := re_tup (pos := by assumption) (x1 := by assumption) (he.fs h q)
    (simp only [wE]; exact this)
  · cases q
theorem sok_lst {es : IEs} (he : LsOk Γ es) : EOk Γ (.lst es) := fun {X C e} h q => by
  unfold chkE at q
  split at q
  · refine EOk.of ?_ rfl
    have := re_lst (pos := by assumption) (he.fs h q)
    (simp only [wE]; exact this)
  · cases q
theorem sok_dnew : EOk Γ .dnew := fun {X C e} h q => by
  unfold chkE at q
  split at q
  · refine EOk.of ?_ rfl
    have := re_dnew (X := X) (pos := by assumption)
    (simp only [wE]; exact this)
  · cases q
theorem sok_ix {a b : IE} (ha : EOk Γ a) (hb : EOk Γ b) : EOk Γ (.ix a b) := fun {X C e} h q => by
  unfold chkE at q
  split at q
  · obtain ⟨q1, q2⟩ := and2 q
    obtain ⟨q2, q3⟩ := and2 q2
    refine EOk.of ?_ rfl
    have := re_ix (pos := by assumption) (Nat.lt_of_le_of_lt (Nat.add_le_add_left (by decide) _) h.hu) (ha h q2).1 (hb h q3).1 (nslice_ix q1)
    (simp only [wE]; exact this)
  · cases q
theorem sok_sl {a : IE} {lo hi : IEs} (ha : EOk Γ a) (hl : LsOk Γ lo) (hh : LsOk Γ hi) : EOk Γ (.sl a lo hi) := fun {X C e} h q => by
  unfold chkE at q
  split at q
  · rename_i l lo' hi' p2 pos
    obtain ⟨q1, q2⟩ := and2 q
    obtain ⟨q2, q3⟩ := and2 q2
    refine EOk.of ?_ rfl
    have := re_sl (pos := pos) (p2 := p2) (ha h q1).1 (hl.on h q2) (hh.on h q3)
    (simp only [wE]; exact this)
  · cases q
theorem sok_call (f : Nat) {es : IEs} (he : LsOk Γ es) : EOk Γ (.call f es) := fun {X C e} h q => by
  unfold chkE at q
  split at q
  · rename_i x px a as pos
    obtain ⟨q1, q2⟩ := and2 q
    obtain ⟨q1, q3⟩ := and2 q1
    obtain ⟨q3, q4⟩ := and2 q3
    unfold okN at q4
    obtain ⟨q4, q5⟩ := and2 q4
    obtain ⟨q4, q6⟩ := and2 q4
    obtain ⟨k, cal, rm, mono⟩ := h.fns f _ _ (of_decide_eq_true q1)
    have st := chkEs_star q2
    rw [List.all_cons, Bool.and_eq_true] at st
    refine EOk.of ?_ rfl
    have := re_call (he.as h q2) rfl mono (e := .Call (.Name x px) (a :: as) [] pos) fun Q σ H hq => of_pe (C8.pe_c cal rm (Nat.le_refl _) (gl_of h q3) pa_of (by simpa using of_decide_eq_true q4) (nstar_each st.1 _ _) (nstar_plain st.2 _ _)) hq
    (simp only [wE]; exact this)
  · cases q
theorem sok_mut (m : MM) (i : Nat) {es : IEs} (he : LsOk Γ es) : EOk Γ (.mut m i es) := fun {X C e} h q => by
  unfold chkE at q
  split at q
  · rename_i x px m' apos as cpos
    obtain ⟨q1, q2⟩ := and2 q
    obtain ⟨q2, q3⟩ := and2 q2
    obtain ⟨q1, q4⟩ := and2 q1
    obtain ⟨q1, q5⟩ := and2 q1
    have zm := of_decide_eq_true q1
    have zl := q5
    have zz := of_decide_eq_true q4
    obtain ⟨x', p', e1, pv⟩ := name_of h q2
    cases e1
    refine EOk.of ?_ rfl
    cases as with
    | nil =>
      have en : es = .nil := by
        cases es with
        | nil => rfl
        | cons => unfold chkEs at q3; cases q3
        | bor => unfold chkEs at q3; cases q3
      subst en
      have := mut_core0 (mut_hp0 (m := m) pv zm zl)
      (simp only [wE, wFs]; exact this)
    | cons a as =>
      have := mut_core (te := tVar i) (he.fs h q3) (mut_hp (m := m) pv zm zl (by simp) (chkEs_star q3) zz)
      (simp only [wE]; exact this)
  · cases q
theorem sok_rg1 (f : BF) {ea : IE} (hr : isRg f = some 1) (h1 : EOk Γ ea) {X : Cx} {C : Ck} {x y : Str} {p p2 pos pos2 : Pos} {a : Expr} (h : XOk X C Γ) (q3 : glB C.sc x = true) (q4 : glB C.sc y = true) (e1 : x = rgOut f) (e2 : y = rgIn f) (s1 : nstar a = true) (k1 : chkE ea C a = true) :
    RE X (.Call (.Name x p) [.Call (.Name y p2) [a] [] pos2] [] pos) (wE Γ (.bf f (.cons ea .nil))) := by
  subst e1 e2
  have r := (h1 h k1).1
  have st := nstar_each s1 [] X.env
  cases f <;> (try (cases hr; done))
  · have := re_lrg1 (p := p) (p2 := p2) (pos := pos) (pos2 := pos2) h.calm (gl_of h q3) (h.free _ (by decide +kernel)) (gl_of h q4) (h.free _ (by decide +kernel)) r st rfl
    simp only [wE, wOs, List.map_cons, List.map_nil]
    exact this
  · have := re_sset (p := p) (p2 := p2) (pos := pos) (pos2 := pos2) h.calm (gl_of h q3) (h.free _ (by decide +kernel)) (gl_of h q4) (h.free _ (by decide +kernel)) r st rfl
    simp only [wE, wOs, List.map_cons, List.map_nil]
    exact this
theorem sok_rg2 (f : BF) {ea eb : IE} (hr : isRg f = some 2) (h1 : EOk Γ ea) (h2 : EOk Γ eb) {X : Cx} {C : Ck} {x y : Str} {p p2 pos pos2 : Pos} {a b : Expr} (h : XOk X C Γ) (q3 : glB C.sc x = true) (q4 : glB C.sc y = true) (e1 : x = rgOut f) (e2 : y = rgIn f) (s1 : nstar a = true) (k1 : chkE ea C a = true) (s2 : nstar b = true) (k2 : chkE eb C b = true) :
    RE X (.Call (.Name x p) [.Call (.Name y p2) [a, b] [] pos2] [] pos) (wE Γ (.bf f (.cons ea (.cons eb .nil)))) := by
  subst e1 e2
  have r1 := (h1 h k1).1
  have r2 := (h2 h k2).1
  have t1 := nstar_each s1 [b] X.env
  have t2 := nstar_each s2 [] X.env
  cases f <;> (try (cases hr; done))
  have := re_lrg2 (p := p) (p2 := p2) (pos := pos) (pos2 := pos2) h.calm (gl_of h q3) (h.free _ (by decide +kernel)) (gl_of h q4) (h.free _ (by decide +kernel)) r1 r2 t1 t2 rfl
  simp only [wE, wOs, List.map_cons, List.map_nil]
  exact this
theorem sok_bf (f : BF) {es : IEs} (he : LsOk Γ es) (h1 : ∀ {e : IE}, es = .cons e .nil → EOk Γ e) (h2 : ∀ {e e' : IE}, es = .cons e (.cons e' .nil) → EOk Γ e ∧ EOk Γ e') : EOk Γ (.bf f es) := fun {X C e} h q => by
  unfold chkE at q
  split at q
  · rename_i hf
    split at q
    · rename_i hr
      split at q
      · rename_i x px a as pos
        obtain ⟨q1, q2⟩ := and2 q
        obtain ⟨q2, q3⟩ := and2 q2
        obtain ⟨q1, q4⟩ := and2 q1
        have e1 := of_decide_eq_true q1
        subst e1
        have st := chkEs_star q3
        rw [List.all_cons, Bool.and_eq_true] at st
        refine EOk.of ?_ rfl
        have := re_bf h.calm hf hr h.hu (he.os h q3) (t := tNil) (p := px) (pos := pos) (bf_call hf q2 (gl_of h q4) (h.free _ (by simpa using q2)) (nstar_each st.1 _ _) (nstar_plain st.2 _ _))
        simp only [wE]
        exact this
      · cases q
    · rename_i n hr
      split at q
      · rename_i x px y py as pos2 pos
        obtain ⟨q1, q2⟩ := and2 q
        obtain ⟨q1, q3⟩ := and2 q1
        obtain ⟨q1, q4⟩ := and2 q1
        obtain ⟨q3, q5⟩ := and2 q3
        split at q2
        · rename_i ea a
          obtain ⟨q2, q6⟩ := and2 q2
          obtain ⟨q6, q7⟩ := and2 q6
          have en := of_decide_eq_true q2
          subst en
          exact EOk.of (sok_rg1 f hr (h1 rfl) h q4 q5 (of_decide_eq_true q1) (of_decide_eq_true q3) q6 q7) rfl
        · rename_i ea eb a b
          obtain ⟨q2, q6⟩ := and2 q2
          obtain ⟨q6, q7⟩ := and2 q6
          obtain ⟨q6, q8⟩ := and2 q6
          obtain ⟨q7, q9⟩ := and2 q7
          have en := of_decide_eq_true q2
          subst en
          obtain ⟨g1, g2⟩ := h2 rfl
          exact EOk.of (sok_rg2 f hr g1 g2 h q4 q5 (of_decide_eq_true q1) (of_decide_eq_true q3) q6 q8 q7 q9) rfl
        · cases q2
      · cases q
  · rename_i T hf
    split at q
    · rename_i x p a c p2 pos
      obtain ⟨q1, q3⟩ := and2 q
      obtain ⟨q1, q2⟩ := and2 q1
      obtain ⟨q1, q4⟩ := and2 q1
      obtain ⟨q2, q5⟩ := and2 q2
      split at q3
      · rename_i ea
        obtain ⟨q3, q6⟩ := and2 q3
        have r := (h1 rfl h q6).1
        have e1 := of_decide_eq_true q1
        have e2 := of_decide_eq_true q2
        subst e1 e2
        refine EOk.of ?_ rfl
        have hT : PE X (.Name (strOf T) p2) (tC (.ty T)) := by
          have gb := gl_of h q5
          have fr : ∀ s ∈ ["bool", "int", "str", "tuple"], X.mg (strOf s) = none := fun s hs => by
            refine h.free _ ?_
            revert hs
            revert s
            decide +kernel
          cases f <;> (cases hf) <;> exact pe_bltn (u := .type _) gb (fr _ (by decide)) (by decide +kernel) rfl (by decide) (by decide)
        have := re_isi (pos := pos) (p := p) (x := strOf "isinstance") hf r hT (nstar_each q3 _ _) fun r t hc ha => pe_callB hc (gl_of h q4) (h.free _ (by decide +kernel)) (by decide +kernel) ha (by decide) (by decide) (nstar_each q3 _ _) rfl
        simp only [wE, wOs]
        exact this
      · cases q3
    · cases q
theorem sok_comp (own : List (Str × Nat)) (tg : Tg) (ik : Ik) {its ifs : IEs} {elt : IE} (hi : LsOk Γ its) (hc : LsOk Γ ifs) (he : EOk Γ elt) : EOk Γ (.comp own tg ik its ifs elt) := fun {X C e} h q => by
  unfold chkE at q
  split at q
  · rename_i elt' tg' iter ifs' k scope pos
    obtain ⟨q1, q2⟩ := and2 q
    obtain ⟨q2, q3⟩ := and2 q2
    obtain ⟨q3, q4⟩ := and2 q3
    obtain ⟨q4, q5⟩ := and2 q4
    obtain ⟨q1, q6⟩ := and2 q1
    obtain ⟨q1, q7⟩ := and2 q1
    obtain ⟨q1, q8⟩ := and2 q1
    have e1 := of_decide_eq_true q1
    subst e1
    have bk : BlkOk X.N X.env.scope scope own := blkOk_by (by rw [h.hN, h.sc]; exact q8)
    have hb : Blk X scope fun Y => XOk Y (blkCk C scope) Γ := h.blk bk.kind
    refine EOk.of ?_ rfl
    have := re_comp (pos := pos) (TG := tg) h.calm (by rw [h.hN]; exact h.nd) (hi.it ik h q2) bk (fun s H D cl fp => tg_of (hb s H D cl fp) q3) (fun s H D cl fp => hc.cn (hb s H D cl fp) q4) (fun s H D cl fp => (he (hb s H D cl fp) q5).1)
      (fun i hm => by simpa using List.all_eq_true.mp q6 i hm) (fun x => nset_fold q7 _ x)
    (simp only [wE]; exact this)
  · cases q
theorem sok_bm (m : BM) (a : IE) (es : IEs) : EOk Γ (.bm m a es) := fun {X C e} h q => by
  unfold chkE at q
  cases q
theorem lok_nil : LsOk Γ .nil where
  os := fun {X C xs} h q => by
    cases xs with
    | nil => (simp only [wOs]; exact (ros_nil (X := X)))
    | cons => unfold chkEs at q; cases q
  fs := fun {X C xs} h q => by
    cases xs with
    | nil => (simp only [wFs]; exact (rfs_nil (X := X)))
    | cons => unfold chkEs at q; cases q
  as := fun {X C xs} h q => by
    cases xs with
    | nil => (simp only [wAs]; exact (ras_nil (X := X)))
    | cons => unfold chkEs at q; cases q
  bo := fun {X C xs} isAnd pos h q1 q => ⟨fun B σ H F G ρ K A w => by simp only [wBo] at w, fun B σ H F G ρ K A w => by simp only [wBo] at w⟩
  on := fun {X C xs} h q => by
    cases xs with
    | none => (simp only [wPart]; exact (rp_none (X := X)))
    | some => unfold chkO at q; cases q
  cn := fun {X C xs} h q => by
    cases xs with
    | nil => (simp only [wCond]; exact (rts_nil (X := X)))
    | cons => unfold chkC at q; cases q
  it := fun {X C tg e} ik h q => by
    cases ik <;> (unfold chkIt at q; cases q)
theorem lok_bor (i : Nat) {es : IEs} (he : LsOk Γ es) : LsOk Γ (.bor i es) where
  os := fun {X C xs} h q => fun B σ H F G ρ K A w => by simp only [wOs] at w
  fs := fun {X C xs} h q => fun B σ H F G ρ K A w => by simp only [wFs] at w
  as := fun {X C xs} h q => by
    cases xs with
    | nil => unfold chkEs at q; cases q
    | cons x xs =>
      unfold chkEs at q
      obtain ⟨q1, q2⟩ := and2 q
      obtain ⟨q2, q3⟩ := and2 q2
      obtain ⟨x', p, rfl, pv⟩ := name_of h q2
      have := ras_bor pv (he.as h q3) (nstar_each q1 _ _)
      (simp only [wAs]; exact this)
  bo := fun {X C xs} isAnd pos h q1 q => ⟨fun B σ H F G ρ K A w => by simp only [wBo] at w, fun B σ H F G ρ K A w => by simp only [wBo] at w⟩
  on := fun {X C xs} h q => by unfold chkO at q; cases q
  cn := fun {X C xs} h q => by unfold chkC at q; cases q
  it := fun {X C tg e} ik h q => by cases ik <;> (unfold chkIt at q; cases q)
theorem lok_cons {e : IE} {es : IEs} (hx : EOk Γ e) (he : LsOk Γ es) (h2 : ∀ {e' : IE}, es = .cons e' .nil → EOk Γ e') : LsOk Γ (.cons e es) where
  os := fun {X C xs} h q => by
    cases xs with
    | nil => unfold chkEs at q; cases q
    | cons x xs =>
      unfold chkEs at q
      obtain ⟨q1, q2⟩ := and2 q
      obtain ⟨q2, q3⟩ := and2 q2
      have := ros_cons (hx h q2).1 (he.os h q3) (nstar_each q1 _ _)
      (simp only [wOs]; exact this)
  fs := fun {X C xs} h q => by
    cases xs with
    | nil => unfold chkEs at q; cases q
    | cons x xs =>
      unfold chkEs at q
      obtain ⟨q1, q2⟩ := and2 q
      obtain ⟨q2, q3⟩ := and2 q2
      have := rfs_cons (hx h q2).1 (he.fs h q3) (nstar_each q1 _ _)
      (simp only [wFs]; exact this)
  as := fun {X C xs} h q => by
    cases xs with
    | nil => unfold chkEs at q; cases q
    | cons x xs =>
      unfold chkEs at q
      obtain ⟨q1, q2⟩ := and2 q
      obtain ⟨q2, q3⟩ := and2 q2
      have := ras_cons (hx h q2).1 (he.as h q3) (nstar_each q1 _ _)
      (simp only [wAs]; exact this)
  bo := fun {X C xs} isAnd pos h qn q => by
    cases xs with
    | nil => unfold chkEs at q; cases q
    | cons x xs =>
      unfold chkEs at q
      obtain ⟨q1, q2⟩ := and2 q
      obtain ⟨q2, q3⟩ := and2 q2
      rw [List.all_cons, Bool.and_eq_true] at qn
      have r := hx h q2
      cases es with
      | nil =>
        cases xs with
        | nil => exact ⟨by simpa only [wBo] using re_bo1 (op := bopOf isAnd) (pos := pos) r.1, by have := rw_bo1 (pos := pos) isAnd (r.2 qn.1); simp only [wBo]; exact this⟩
        | cons => unfold chkEs at q3; cases q3
      | bor e2 es =>
        cases xs with
        | nil => unfold chkEs at q3; cases q3
        | cons y ys =>
          obtain ⟨s1, s2⟩ := he.bo isAnd pos h qn.2 q3
          have t1 := re_bo2 isAnd r.1 s1
          have t2 := rw_bo2 isAnd (r.2 qn.1) s2
          exact ⟨by simp only [wBo]; exact t1, by simp only [wBo]; exact t2⟩
      | cons e2 es =>
        cases xs with
        | nil => unfold chkEs at q3; cases q3
        | cons y ys =>
          obtain ⟨s1, s2⟩ := he.bo isAnd pos h qn.2 q3
          have t1 := re_bo2 isAnd r.1 s1
          have t2 := rw_bo2 isAnd (r.2 qn.1) s2
          exact ⟨by simp only [wBo]; exact t1, by simp only [wBo]; exact t2⟩
  on := fun {X C xs} h q => by
    cases es with
    | nil =>
      cases xs with
      | none => unfold chkO at q; cases q
      | some x =>
        unfold chkO at q
        have := rp_some (hx h q).1
        (simp only [wPart]; exact this)
    | cons => unfold chkO at q; cases q
    | bor => unfold chkO at q; cases q
  cn := fun {X C xs} h q => by
    cases es with
    | nil =>
      cases xs with
      | nil => unfold chkC at q; cases q
      | cons x xs =>
        cases xs with
        | cons => unfold chkC at q; cases q
        | nil =>
          unfold chkC at q
          obtain ⟨q1, q2⟩ := and2 q
          have := rts_one ((hx h q2).2 q1)
          simp only [wCond]
          exact this
    | cons => unfold chkC at q; cases q
    | bor => unfold chkC at q; cases q
  it := fun {X C tg e0} ik h q => by
    unfold chkIt at q
    split at q
    · rename_i e' x p a pos heq
      cases heq
      obtain ⟨q1, q2⟩ := and2 q
      obtain ⟨q1, q3⟩ := and2 q1
      obtain ⟨q2, q4⟩ := and2 q2
      have e1 : x = strOf "range" := of_decide_eq_true q1
      rw [e1] at q3
      rw [e1]
      have := ri_rng1 (tg := tg) (p := p) (pos := pos) (gl_of h q3) (h.free _ (by decide +kernel)) (hx h q4).1 (by rw [nstar_each q2]; rfl)
      (simp only [wIt]; exact this)
    · rename_i e' e'' x p a b pos heq
      cases heq
      obtain ⟨q1, q2⟩ := and2 q
      obtain ⟨q1, q3⟩ := and2 q1
      obtain ⟨q2, q4⟩ := and2 q2
      obtain ⟨q2, q5⟩ := and2 q2
      obtain ⟨q4, q6⟩ := and2 q4
      have e1 : x = strOf "range" := of_decide_eq_true q1
      rw [e1] at q3
      rw [e1]
      have := ri_rng2 (tg := tg) (p := p) (pos := pos) (gl_of h q3) (h.free _ (by decide +kernel)) (hx h q5).1 (h2 rfl h q6).1 (by rw [nstar_each q2, nstar_each q4]; rfl) (by rw [nstar_each q4]; rfl)
      (simp only [wIt]; exact this)
    · rename_i heq
      cases heq
      have := ri_seq (tg := tg) (hx h q).1
      (simp only [wIt]; exact this)
    · cases q
mutual
theorem sndE : ∀ (ir : IE), EOk Γ ir
  | .v i => sok_v i
  | .g x d => sok_g x d
  | .k d => sok_k d
  | .op o a b => sok_op o (sndE a) (sndE b)
  | .neg a => sok_neg (sndE a)
  | .cmp c a b => sok_cmp c (sndE a) (sndE b)
  | .isN ng a => sok_isN ng (sndE a)
  | .ch c c' a b d => sok_ch c c' (sndE a) (sndE b) (sndE d)
  | .nt a => sok_nt (sndE a)
  | .bo isAnd es => sok_bo isAnd (sndL es)
  | .ife c a b => sok_ife (sndE c) (sndE a) (sndE b)
  | .tup es => sok_tup (sndL es)
  | .lst es => sok_lst (sndL es)
  | .dnew => sok_dnew
  | .ix a i => sok_ix (sndE a) (sndE i)
  | .sl a lo hi => sok_sl (sndE a) (sndL lo) (sndL hi)
  | .call f es => sok_call f (sndL es)
  | .bf f es => sok_bf f (sndL es) (snd1 es) (snd2 es)
  | .bm m a es => sok_bm m a es
  | .mut m i es => sok_mut m i (sndL es)
  | .comp own tg ik its ifs elt => sok_comp own tg ik (sndL its) (sndL ifs) (sndE elt)
theorem sndL : ∀ (es : IEs), LsOk Γ es
  | .nil => lok_nil
  | .cons e es => lok_cons (sndE e) (sndL es) (snd1 es)
  | .bor i es => lok_bor i (sndL es)
theorem snd2 : ∀ (es : IEs) {e e' : IE}, es = .cons e (.cons e' .nil) → EOk Γ e ∧ EOk Γ e'
  | .nil, _, _, h => by cases h
  | .cons e .nil, _, _, h => by cases h
  | .cons e (.cons e' _), _, _, h => by cases h; exact ⟨sndE e, sndE e'⟩
  | .cons e (.bor _ _), _, _, h => by cases h
  | .bor _ _, _, _, h => by cases h
theorem snd1 : ∀ (es : IEs) {e : IE}, es = .cons e .nil → EOk Γ e
  | .nil, _, h => by cases h
  | .cons e _, _, h => by cases h; exact sndE e
  | .bor _ _, _, h => by cases h
end
end Bo

set_option Elab.async false
set_option linter.all false
set_option maxRecDepth 100000
set_option maxHeartbeats 8000000
/-! Bo14: the checker for statements, and its soundness. -/
namespace Bo
open PySem PySem.Spec PyProof.Rows L2
def swB (sc : Scope) (value : Expr) (t : Str) (p : Pos) : Bool := match value with
  | .ListComp _ _ scope vp => decide (sc.names.lookup t = some .local) && (p.line == vp.line && !(scope.names.any fun (n, k) => n == t && (k == .local || k == .cell)))
  | .SetComp _ _ scope vp => true
  | .DictComp _ _ _ scope vp => true
  | _ => false
def isStar : Expr → Bool
  | .Starred .. => true
  | _ => false
def swSt (sc : Scope) (ts vs : List Expr) : Option (Option (List Str)) :=
  if !(ts.length == 2 || ts.length == 3) || vs.length != ts.length then some none
  else if vs.any (fun | .Starred .. => true | _ => false) then some none
  else
    let line := (ts.head?.map (·.pos.line)).getD 0
    let names := ts.filterMap fun
      | .Name id pos => if sc.names.lookup id == some .local && pos.line == line then some id else none
      | _ => none
    if names.length != ts.length || names.eraseDups.length != names.length then some none
    else if vs.all (foldedForSure 8) then some none
    else if vs.all (constantsAlone 8) then none
    else some (some names)
theorem blk_fn {env : Env} (hk : env.scope.kind = .function) : (env.blockKind == ScopeKind.function) = true := by
  unfold Env.blockKind
  rw [hk]
  rfl
theorem sole_tup {e : Expr} {ts : List Expr} {k : Nat} {p : Pos} {l : Nat} {env : Env} : swapsWithSole [.Tuple ts k p] e l env = pure false := by
  cases e <;> rfl
theorem sole_sub {e o i : Expr} {p : Pos} {l : Nat} {env : Env} : swapsWithSole [.Subscript o i p] e l env = pure false := by
  cases e <;> rfl
theorem swSt_ok {env : Env} (hk : env.scope.kind = .function) {ts vs : List Expr} {k k2 : Nat} {p p2 : Pos} {o : Option (List Str)} (h : swSt env.scope ts vs = some o) : swappedStores [.Tuple ts k p] (.Tuple vs k2 p2) env = pure o := by
  unfold swSt at h
  unfold swappedStores
  have hb : (env.blockKind != ScopeKind.function) = false := by
    show (!(env.blockKind == ScopeKind.function)) = false
    rw [blk_fn hk]; rfl
  simp only [hb, Bool.or_false]
  split at h
  · rename_i c
    cases h
    exact if_pos c
  · rename_i c
    refine (if_neg c).trans ?_
    split at h
    · rename_i c
      cases h
      exact if_pos c
    · rename_i c
      refine (if_neg c).trans ?_
      simp only at h
      split at h
      · rename_i c
        cases h
        exact if_pos c
      · rename_i c
        refine (if_neg c).trans ?_
        split at h
        · rename_i c
          cases h
          exact if_pos c
        · rename_i c
          refine (if_neg c).trans ?_
          split at h
          · cases h
          · rename_i c
            cases h
            exact if_neg c
theorem len2 {α : Type} {l : List α} (h : l.length = 2) : ∃ a b, l = [a, b] := by
  match l, h with
  | [a, b], _ => exact ⟨a, b, rfl⟩
theorem len3 {α : Type} {l : List α} (h : l.length = 3) : ∃ a b c, l = [a, b, c] := by
  match l, h with
  | [a, b, c], _ => exact ⟨a, b, c, rfl⟩
theorem swB_ok {env : Env} (hk : env.scope.kind = .function) {v : Expr} {t : Str} {p : Pos} {l : Nat} (h : swB env.scope v t p = false) : swapsWith v (some (.Name t p)) l env = pure false := by
  cases v with
  | ListComp elt gs scope pos =>
    have h : (decide (env.scope.names.lookup t = some .local) && (p.line == pos.line && !(scope.names.any fun (n, k) => n == t && (k == .local || k == .cell)))) = false := h
    show (pure (env.blockKind == .function && env.kindOf t == some .local && p.line == pos.line
      && !(scope.names.any fun (n, k) => n == t && (k == .local || k == .cell))) : Sem Bool) = pure false
    rw [blk_fn hk, Bool.true_and, Bool.and_assoc]
    refine congrArg pure ?_
    rw [← h]
    unfold Env.kindOf
    congr 1
    by_cases q : env.scope.names.lookup t = some .local
    · rw [q]; rfl
    · rw [decide_eq_false q]
      exact beq_eq_false_iff_ne.mpr q
  | SetComp => cases h
  | DictComp => cases h
  | _ => rfl
theorem swB_true {env : Env} (hk : env.scope.kind = .function) {elt : Expr} {gs : List Comprehension} {scope : Scope} {pos : Pos} {t : Str} {p : Pos} {l : Nat} (h : swB env.scope (.ListComp elt gs scope pos) t p = true) : env.scope.names.lookup t = some .local ∧ swapsWith (.ListComp elt gs scope pos) (some (.Name t p)) l env = pure true := by
  have h : (decide (env.scope.names.lookup t = some .local) && (p.line == pos.line && !(scope.names.any fun (n, k) => n == t && (k == .local || k == .cell)))) = true := h
  obtain ⟨h1, h2⟩ := and2 h
  have h1 := of_decide_eq_true h1
  refine ⟨h1, ?_⟩
  show (pure (env.blockKind == .function && env.kindOf t == some .local && p.line == pos.line
      && !(scope.names.any fun (n, k) => n == t && (k == .local || k == .cell))) : Sem Bool) = pure true
  rw [blk_fn hk, Bool.true_and, Bool.and_assoc, h2]
  unfold Env.kindOf
  rw [h1]; rfl
def loc1 (sc : Scope) (x : Str) : Bool := decide (sc.names.lookup x = some .local)
def parB (C : Ck) (ts vs : List Expr) : Bool := match swSt C.sc ts vs with
  | some none => true
  | some (some [x, y]) => match ts with
    | [.Name x' _, .Name y' _] => decide (x = x' ∧ y = y') && (loc1 C.sc x && loc1 C.sc y)
    | _ => false
  | some (some [x, y, z]) => match ts with
    | [.Name x' _, .Name y' _, .Name z' _] => decide (x = x' ∧ y = y' ∧ z = z') && (loc1 C.sc x && (loc1 C.sc y && loc1 C.sc z))
    | _ => false
  | _ => false
mutual
def chkS : IS → Ck → Stmt → Bool
  | .set i e, C, s => match s with
    | .Assign [.Name x px] v pos => stB C i (.Name x px) && (if swB C.sc v x px then (match e with
      | .comp _ _ _ _ _ _ => chkE e C v
      | _ => false) else chkE e C v)
    | _ => false
  | .setT is e, C, s => match s with
    | .Assign [.Tuple ts _ _] v _ => tgNames C is ts && (ntup v && chkE e C v)
    | _ => false
  | .par is es, C, s => match s with
    | .Assign [.Tuple ts _ _] (.Tuple vs _ _) _ => (tgNames C is ts && (decide is.Nodup && decide (vs.length = is.length) && decide (vs.length ≤ 1000))) && (parB C ts vs && chkEs es C vs)
    | _ => false
  | .setI i ix e, C, s => match s with
    | .Assign [.Subscript (.Name x px) ixe _] v _ => (nameB C i (.Name x px) && nslice ixe) && (chkE ix C ixe && chkE e C v)
    | _ => false
  | .aug o i e, C, s => match s with
    | .AugAssign (.Name x px) op v _ => (stB C i (.Name x px) && (decide (op = opOf o) && ipOk o)) && chkE e C v
    | _ => false
  | .augI o i ix e, C, s => match s with
    | .AugAssign (.Subscript (.Name x px) ixe _) op v _ => ((nameB C i (.Name x px) && nslice ixe) && (decide (op = opOf o) && ipOk o)) && (chkE ix C ixe && chkE e C v)
    | _ => false
  | .ex e, C, s => match s with
    | .Expr v _ => ncomp v && chkE e C v
    | _ => false
  | .ret e, C, s => match s with
    | .Return (some v) _ => chkE e C v
    | _ => false
  | .retN, _, s => match s with
    | .Return none _ => true
    | _ => false
  | .ifs c a b, C, s => match s with
    | .If c' a' b' _ => (nife c' && chkE c C c') && (chkSs a C a' && chkSs b C b')
    | _ => false
  | .fo tg ik its body, C, s => match s with
    | .For tg' it body' [] _ => (nset it && chkTg C tg tg') && (chkIt ik its C it && chkSs body C body')
    | _ => false
  | .wh c body, C, s => match s with
    | .While c' body' [] _ => (nife c' && chkE c C c') && chkSs body C body'
    | _ => false
  | .brk, _, s => match s with
    | .Break _ => true
    | _ => false
  | .pas, _, s => match s with
    | .Pass _ => true
    | _ => false
def chkSs : ISs → Ck → List Stmt → Bool
  | .nil, _, [] => true
  | .cons s ss, C, t :: ts => chkS s C t && chkSs ss C ts
  | _, _, _ => false
end
variable {Γ : Nat → Ct}
theorem rs_comp {X : Cx} {C : Ck} (h : XOk X C Γ) {own : List (Str × Nat)} {tg : Tg} {ik : Ik} {its ifs : IEs} {elt : IE} {x : Str} {i : Nat} {px spos : Pos} {v : Expr} (hs : stB C i (.Name x px) = true) (hb : swB C.sc v x px = true) (q : chkE (.comp own tg ik its ifs elt) C v = true) :
    RS X (.Assign [.Name x px] v spos) (wS Γ (.set i (.comp own tg ik its ifs elt))) := by
  unfold chkE at q
  split at q
  · rename_i elt' tg' iter ifs' k scope pos
    obtain ⟨q1, q2⟩ := and2 q
    obtain ⟨q2, q3⟩ := and2 q2
    obtain ⟨q3, q4⟩ := and2 q3
    obtain ⟨q4, q5⟩ := and2 q4
    obtain ⟨q1, q6⟩ := and2 q1
    obtain ⟨q1, q7⟩ := and2 q1
    obtain ⟨q1, q8⟩ := and2 q1
    have e1 := of_decide_eq_true q1
    subst e1
    have bk : BlkOk X.N X.env.scope scope own := blkOk_by (by rw [h.hN, h.sc]; exact q8)
    have hbk : Blk X scope fun Y => XOk Y (blkCk C scope) Γ := h.blk bk.kind
    obtain ⟨x', p', e, st1, st2, st3⟩ := st_of h hs
    cases e
    have hb2 := hb
    rw [← h.sc] at hb2
    obtain ⟨b1, b2⟩ := swB_true (l := spos.line) (by rw [h.sc]; exact h.kind) hb2
    have := rs_setLc (pos := pos) (TG := tg) h.calm (by rw [h.hN]; exact h.nd) st1 b1 b2 ((sndL its).it ik h q2) bk (fun s H D cl fp => tg_of (hbk s H D cl fp) q3) (fun s H D cl fp => (sndL ifs).cn (hbk s H D cl fp) q4) (fun s H D cl fp => (sndE elt (hbk s H D cl fp) q5).1)
      (fun i hm => by simpa using List.all_eq_true.mp q6 i hm) (fun x => nset_fold q7 _ x)
    simp only [wS, wE]
    exact this
  · cases q
def SOk (Γ : Nat → Ct) (s : IS) : Prop := ∀ {X : Cx} {C : Ck} {t : Stmt}, XOk X C Γ → chkS s C t = true → RS X t (wS Γ s)
def SsOk (Γ : Nat → Ct) (s : ISs) : Prop := ∀ {X : Cx} {C : Ck} {t : List Stmt}, XOk X C Γ → chkSs s C t = true → RSs X t (wSs Γ s)
theorem XOk.u1 {X : Cx} {C : Ck} (h : XOk X C Γ) : X.A.units + 1 < cLine := Nat.lt_of_le_of_lt (Nat.add_le_add_left (by decide) _) h.hu
theorem sso_set (i : Nat) (e : IE) : SOk Γ (.set i e) := fun {X C t} h q => by
  unfold chkS at q
  split at q
  · rename_i x px v pos
    obtain ⟨q1, q2⟩ := and2 q
    split at q2
    · rename_i hb
      split at q2
      · exact rs_comp h q1 hb q2
      · cases q2
    · rename_i hb
      obtain ⟨x', p', e, st1, st2, st3⟩ := st_of h q1
      cases e
      rw [Bool.not_eq_true] at hb
      rw [← h.sc] at hb
      have := rs_set (pos := pos) (sndE e h q2).1 (by rw [h.hN]; exact h.nd) st1 st2 st3 (swB_ok (l := pos.line) (by rw [h.sc]; exact h.kind) hb)
      simp only [wS]
      exact this
  · cases q
theorem sso_setT (is : List Nat) (e : IE) : SOk Γ (.setT is e) := fun {X C t} h q => by
  unfold chkS at q
  split at q
  · rename_i ts k p v pos
    obtain ⟨q1, q2⟩ := and2 q
    obtain ⟨q2, q3⟩ := and2 q2
    obtain ⟨r1, e1, f1, _⟩ := rgs_of h q1
    have := rs_setT (pos := pos) (sndE e h q3).1 (rg_tup (k0 := k) (pos := p) h.calm r1 e1 f1) sole_tup (ntup_swap q2 _ _) rfl
    simp only [wS]
    exact this
  · cases q
theorem sso_par (is : List Nat) (es : IEs) : SOk Γ (.par is es) := fun {X C t} h q => by
  unfold chkS at q
  split at q
  · rename_i ts k p vs k2 p2 pos
    obtain ⟨q1, q2⟩ := and2 q
    obtain ⟨q2, q3⟩ := and2 q2
    obtain ⟨q1, q4⟩ := and2 q1
    obtain ⟨q4, q5⟩ := and2 q4
    obtain ⟨q4, q6⟩ := and2 q4
    have nd := of_decide_eq_true q4
    have hl := of_decide_eq_true q6
    have hz := of_decide_eq_true q5
    obtain ⟨r1, e1, f1, pg, li⟩ := rgs_of h q1
    have hk : X.env.scope.kind = .function := by rw [h.sc]; exact h.kind
    have fin : (∀ D σ H, tAOf X vs σ H (fun vs H1 => vs.length = is.length ∧ ∀ H2, Same H1 H2 → D.nx (setAll σ is vs) H2) → tSOf X (.Assign [.Tuple ts k p] (.Tuple vs k2 p2) pos) D σ H) → RS X (.Assign [.Tuple ts k p] (.Tuple vs k2 p2) pos) (wS Γ (.par is es)) := fun hp => by
      have := rs_parCore ((sndL es).os h q3) nd (fun I => li I) hp hl hz
      simp only [wS]
      exact this
    refine fin ?_
    unfold parB at q2
    rw [← h.sc] at q2
    split at q2
    · rename_i hw
      exact par_tup h.calm pg e1 f1 (by rw [← hl]; exact hz) sole_tup (swSt_ok hk hw)
    · rename_i x y hw
      split at q2
      · rename_i x' px y' py
        obtain ⟨q2, q7⟩ := and2 q2
        obtain ⟨q7, q8⟩ := and2 q7
        obtain ⟨e2, e3⟩ := of_decide_eq_true q2
        subst e2 e3
        have l2 : is.length = 2 := e1.symm
        obtain ⟨i, j, ei⟩ := len2 l2
        obtain ⟨a, b, ev⟩ := len2 (hl.trans l2)
        subst ei ev
        · obtain ⟨t1, t2⟩ := and2 q1
          obtain ⟨t2, _⟩ := and2 t2
          obtain ⟨_, _, e, n1, _⟩ := st_of h t1
          cases e
          obtain ⟨_, _, e, n2, _⟩ := st_of h t2
          cases e
          exact par_two h.calm (by rw [h.hN]; exact h.nd) n1 n2 (by simpa using nd) (of_decide_eq_true q7) (of_decide_eq_true q8) (swSt_ok hk hw) sole_tup
      · cases q2
    · rename_i x y z hw
      split at q2
      · rename_i x' px y' py z' pz
        obtain ⟨q2, q7⟩ := and2 q2
        obtain ⟨q7, q8⟩ := and2 q7
        obtain ⟨q8, q9⟩ := and2 q8
        obtain ⟨e2, e3, e4⟩ := of_decide_eq_true q2
        subst e2 e3 e4
        have l2 : is.length = 3 := e1.symm
        obtain ⟨i, j, l, ei⟩ := len3 l2
        obtain ⟨a, b, c, ev⟩ := len3 (hl.trans l2)
        subst ei ev
        · obtain ⟨t1, t2⟩ := and2 q1
          obtain ⟨t2, t3⟩ := and2 t2
          obtain ⟨t3, _⟩ := and2 t3
          obtain ⟨_, _, e, n1, _⟩ := st_of h t1
          cases e
          obtain ⟨_, _, e, n2, _⟩ := st_of h t2
          cases e
          obtain ⟨_, _, e, n3, _⟩ := st_of h t3
          cases e
          have nd2 : (i ≠ j ∧ i ≠ l) ∧ j ≠ l := by simpa using nd
          exact par_three h.calm (by rw [h.hN]; exact h.nd) n1 n2 n3 nd2.1.1 nd2.1.2 nd2.2 (of_decide_eq_true q7) (of_decide_eq_true q8) (of_decide_eq_true q9) (swSt_ok hk hw) sole_tup
      · cases q2
    · cases q2
  · cases q
theorem sso_setI (i : Nat) (ix e : IE) : SOk Γ (.setI i ix e) := fun {X C t} h q => by
  unfold chkS at q
  split at q
  · rename_i x px ixe pt v pos
    obtain ⟨q1, q2⟩ := and2 q
    obtain ⟨q2, q3⟩ := and2 q2
    obtain ⟨q1, q4⟩ := and2 q1
    obtain ⟨x', p', e1, pv⟩ := name_of h q1
    cases e1
    have := rs_setI (pos := pos) (pt := pt) h.u1 pv (sndE ix h q2).1 (sndE e h q3).1 sole_sub (subt_swap _) (fun v => nslice_asg q4 v)
    simp only [wS]
    exact this
  · cases q
theorem sso_aug (o : O2) (i : Nat) (e : IE) : SOk Γ (.aug o i e) := fun {X C t} h q => by
  unfold chkS at q
  split at q
  · rename_i x px op v pos
    obtain ⟨q1, q2⟩ := and2 q
    obtain ⟨q1, q3⟩ := and2 q1
    obtain ⟨q3, q4⟩ := and2 q3
    obtain ⟨x', p', e, st1, st2, st3⟩ := st_of h q1
    cases e
    have eo := of_decide_eq_true q3
    subst eo
    have := rs_aug (pos := pos) (px := px) q4 (by rw [h.hN]; exact h.nd) st1 st2 st3 (sndE e h q2).1
    simp only [wS]
    exact this
  · cases q
theorem sso_augI (o : O2) (i : Nat) (ix e : IE) : SOk Γ (.augI o i ix e) := fun {X C t} h q => by
  unfold chkS at q
  split at q
  · rename_i x px ixe pt op v pos
    obtain ⟨q1, q2⟩ := and2 q
    obtain ⟨q2, q3⟩ := and2 q2
    obtain ⟨q1, q4⟩ := and2 q1
    obtain ⟨q1, q5⟩ := and2 q1
    obtain ⟨q4, q6⟩ := and2 q4
    obtain ⟨x', p', e1, pv⟩ := name_of h q1
    cases e1
    have eo := of_decide_eq_true q4
    subst eo
    have := rs_augI (pos := pos) (pt := pt) q6 h.u1 pv (sndE ix h q2).1 (sndE e h q3).1 (fun ov iv new => nslice_aug q5 ov iv new)
    simp only [wS]
    exact this
  · cases q
theorem sso_ex (e : IE) : SOk Γ (.ex e) := fun {X C t} h q => by
  unfold chkS at q
  split at q
  · rename_i v pos
    obtain ⟨q1, q2⟩ := and2 q
    have := rs_ex (pos := pos) (sndE e h q2).1 (ncomp_swap q1 _ _ _)
    simp only [wS]
    exact this
  · cases q
theorem sso_ret (e : IE) : SOk Γ (.ret e) := fun {X C t} h q => by
  unfold chkS at q
  split at q
  · rename_i v pos
    have := rs_ret (pos := pos) (sndE e h q).1
    simp only [wS]
    exact this
  · cases q
theorem sso_retN : SOk Γ .retN := fun {X C t} h q => by
  unfold chkS at q
  split at q
  · rename_i pos
    have := rs_retN (X := X) (pos := pos)
    simp only [wS]
    exact this
  · cases q
theorem sso_pas : SOk Γ .pas := fun {X C t} h q => by
  unfold chkS at q
  split at q
  · rename_i pos
    have := rs_pas (X := X) (pos := pos)
    simp only [wS]
    exact this
  · cases q
theorem sso_brk : SOk Γ .brk := fun {X C t} h q => by
  unfold chkS at q
  split at q
  · rename_i pos
    have := rs_brk (X := X) (pos := pos)
    simp only [wS]
    exact this
  · cases q
theorem sso_ifs (c : IE) {a b : ISs} (ha : SsOk Γ a) (hb : SsOk Γ b) : SOk Γ (.ifs c a b) := fun {X C t} h q => by
  unfold chkS at q
  split at q
  · rename_i c' a' b' pos
    obtain ⟨q1, q2⟩ := and2 q
    obtain ⟨q1, q3⟩ := and2 q1
    obtain ⟨q2, q4⟩ := and2 q2
    have := rs_if (pos := pos) ((sndE c h q3).2 q1) (ha h q2) (hb h q4)
    simp only [wS]
    exact this
  · cases q
theorem XOk.never {X : Cx} {C : Ck} (h : XOk X C Γ) : PassesOwn (model X.prog X.w) X.A X.env X.xe := by
  rw [h.xe]; exact PassesOwn.never
theorem sso_fo (tg : Tg) (ik : Ik) (its : IEs) {b : ISs} (hb : SsOk Γ b) : SOk Γ (.fo tg ik its b) := fun {X C t} h q => by
  unfold chkS at q
  split at q
  · rename_i tg' it' body pos
    obtain ⟨q1, q2⟩ := and2 q
    obtain ⟨q1, q3⟩ := and2 q1
    obtain ⟨q2, q4⟩ := and2 q2
    have := rs_fo (pos := pos) h.never h.calm ((sndL its).it ik h q2) (tg_of h q3) (hb h q4) (fun x => nset_fold q1 _ x)
    simp only [wS]
    exact this
  · cases q
theorem sso_wh (c : IE) {b : ISs} (hb : SsOk Γ b) : SOk Γ (.wh c b) := fun {X C t} h q => by
  unfold chkS at q
  split at q
  · rename_i c' body pos
    obtain ⟨q1, q2⟩ := and2 q
    obtain ⟨q1, q3⟩ := and2 q1
    have := rs_wh (pos := pos) h.never ((sndE c h q3).2 q1) (hb h q2)
    simp only [wS]
    exact this
  · cases q
theorem sss_nil : SsOk Γ .nil := fun {X C t} h q => by
  cases t with
  | nil =>
    have := rss_nil (X := X)
    simp only [wSs]
    exact this
  | cons => unfold chkSs at q; cases q
theorem sss_cons {s : IS} {ss : ISs} (h1 : SOk Γ s) (h2 : SsOk Γ ss) : SsOk Γ (.cons s ss) := fun {X C t} h q => by
  cases t with
  | nil => unfold chkSs at q; cases q
  | cons t ts =>
    unfold chkSs at q
    obtain ⟨q1, q2⟩ := and2 q
    have := rss_cons (h1 h q1) (h2 h q2)
    simp only [wSs]
    exact this
mutual
theorem sndS : ∀ (s : IS), SOk Γ s
  | .set i e => sso_set i e
  | .setT is e => sso_setT is e
  | .par is es => sso_par is es
  | .setI i ix e => sso_setI i ix e
  | .aug o i e => sso_aug o i e
  | .augI o i ix e => sso_augI o i ix e
  | .ex e => sso_ex e
  | .ret e => sso_ret e
  | .retN => sso_retN
  | .ifs c a b => sso_ifs c (sndSs a) (sndSs b)
  | .fo tg ik its body => sso_fo tg ik its (sndSs body)
  | .wh c body => sso_wh c (sndSs body)
  | .brk => sso_brk
  | .pas => sso_pas
theorem sndSs : ∀ (ss : ISs), SsOk Γ ss
  | .nil => sss_nil
  | .cons s ss => sss_cons (sndS s) (sndSs ss)
end
end Bo

set_option Elab.async false
set_option linter.all false
set_option maxRecDepth 100000
set_option maxHeartbeats 8000000
/-! Bo15: a def keeps its contract. -/
namespace Bo
open PySem PySem.Spec PyProof.Rows L2
def obOf : En → Ob
  | .bor o => o
  | .own o => o
  | _ => .lst []
def outsFrom (ρ : Ev) : Nat → List En → List Ob
  | _, [] => []
  | i, .bor _ :: es => obOf (ρ.get i) :: outsFrom ρ (i + 1) es
  | i, _ :: es => outsFrom ρ (i + 1) es
/-- what a def's body does -/
def bodyCt (Γ : Nat → Ct) (m : Nat) (ir : ISs) : Ct := fun es K =>
  wSs Γ ir (es ++ List.replicate (m - es.length) .no) { nx := fun ρ => K (.val .none) (outsFrom ρ 0 es), rt := fun r ρ => K r (outsFrom ρ 0 es) }
/-- the addresses of borrowed slots -/
def bAt (es : List En) (vs : List V) (i : Nat) : Option Addr := match es[i]?, vs[i]? with
  | some (.bor _), some (.ref a) => some a
  | _, _ => none
theorem bAt_cases {es : List En} {vs : List V} {i : Nat} {a : Addr} (h : bAt es vs i = some a) : (∃ o, es[i]? = some (.bor o)) ∧ vs[i]? = some (.ref a) := by
  unfold bAt at h
  split at h
  · rename_i e1 e2
    cases h
    exact ⟨⟨_, e1⟩, e2⟩
  · cases h
theorem bors_mem {es : List En} {vs : List V} {a : Addr} {K : PySem.W.Frag} {F H G : Hp} (p : Paired (EnR K F H G) es vs) (i : Nat) (h : bAt es vs i = some a) : a ∈ bors es vs := by
  induction p generalizing i with
  | nil => unfold bAt at h; simp at h
  | @cons e v es vs r t ih =>
    cases i with
    | zero =>
      obtain ⟨⟨o, h1⟩, h2⟩ := bAt_cases h
      simp only [List.getElem?_cons_zero, Option.some.injEq] at h1 h2
      subst h1 h2
      exact List.mem_cons_self
    | succ i =>
      have h' : bAt es vs i = some a := by unfold bAt at h ⊢; simpa using h
      have m := ih i h'
      cases e with
      | bor o =>
        obtain ⟨b, ho, rfl, _⟩ := r
        exact List.mem_cons_of_mem _ m
      | _ => exact m
theorem bors_at {es : List En} {vs : List V} {a : Addr} {K : PySem.W.Frag} {F H G : Hp} (p : Paired (EnR K F H G) es vs) (h : a ∈ bors es vs) : ∃ i, bAt es vs i = some a := by
  induction p with
  | nil => simp [bors] at h
  | @cons e v es vs r t ih =>
    have up : a ∈ bors es vs → ∃ i, bAt (e :: es) (v :: vs) i = some a := fun m => by
      obtain ⟨i, hi⟩ := ih m
      exact ⟨i + 1, by unfold bAt at hi ⊢; simpa using hi⟩
    cases e with
    | bor o =>
      obtain ⟨b, ho, rfl, _⟩ := r
      rcases List.mem_cons.mp h with q | q
      · subst q; exact ⟨0, rfl⟩
      · exact up q
    | _ => exact up h
theorem bAt_inj {es : List En} {vs : List V} {a : Addr} {K : PySem.W.Frag} {F H G : Hp} (p : Paired (EnR K F H G) es vs) (nd : (bors es vs).Nodup) : ∀ (i j : Nat), bAt es vs i = some a → bAt es vs j = some a → i = j := by
  induction p with
  | nil => intro i j h; unfold bAt at h; simp at h
  | @cons e v es vs r t ih =>
    have dn : ∀ i, bAt (e :: es) (v :: vs) (i + 1) = bAt es vs i := fun i => by unfold bAt; simp
    have nd' : (bors es vs).Nodup := by
      cases e with
      | bor o =>
        obtain ⟨b, ho, rfl, _⟩ := r
        exact (List.nodup_cons.mp nd).2
      | _ => exact nd
    have key : ∀ j, bAt (e :: es) (v :: vs) 0 = some a → bAt es vs j = some a → False := fun j h0 hj => by
      obtain ⟨⟨o, h1⟩, h2⟩ := bAt_cases h0
      simp only [List.getElem?_cons_zero, Option.some.injEq] at h1 h2
      subst h1 h2
      exact (List.nodup_cons.mp nd).1 (bors_mem t j hj)
    intro i j hi hj
    cases i with
    | zero =>
      cases j with
      | zero => rfl
      | succ j => exact (key j hi (by rw [dn] at hj; exact hj)).elim
    | succ i =>
      cases j with
      | zero => exact (key i hj (by rw [dn] at hi; exact hi)).elim
      | succ j => rw [dn] at hi hj; rw [ih nd' i j hi hj]
theorem outs_pair {R : Addr → Ob → Prop} {K : PySem.W.Frag} {F H G : Hp} {ρ : Ev} {es : List En} {vs : List V} (p : Paired (EnR K F H G) es vs) : ∀ (i : Nat), (∀ k a, bAt es vs k = some a → R a (obOf (ρ.get (i + k)))) → Paired R (bors es vs) (outsFrom ρ i es) := by
  induction p with
  | nil => intro i h; exact .nil
  | @cons e v es vs r t ih =>
    intro i h
    have dn : ∀ i, bAt (e :: es) (v :: vs) (i + 1) = bAt es vs i := fun i => by unfold bAt; simp
    have rest := ih (i + 1) fun k a hk => by
      have := h (k + 1) a (by rw [dn]; exact hk)
      rw [show i + (k + 1) = i + 1 + k by omega] at this
      exact this
    cases e with
    | bor o =>
      obtain ⟨b, ho, rfl, _⟩ := r
      exact .cons (h 0 b rfl) rest
    | _ => exact rest
theorem getD_app {es : List En} {m i : Nat} : Ev.get (es ++ List.replicate m .no) i = match es[i]? with | some e => e | none => .no := by
  unfold Ev.get
  rw [List.getD_eq_getElem?_getD]
  by_cases h : i < es.length
  · rw [List.getElem?_append_left h, List.getElem?_eq_getElem h]; rfl
  · have h' : es.length ≤ i := by omega
    rw [List.getElem?_append_right h', List.getElem?_eq_none h']
    by_cases h2 : i - es.length < m
    · rw [List.getElem?_replicate_of_lt h2]; rfl
    · rw [List.getElem?_eq_none (by rw [List.length_replicate]; omega)]; rfl
theorem paired_get {α β : Type} {R : α → β → Prop} {as : List α} {bs : List β} (p : Paired R as bs) : ∀ {i : Nat} {a : α}, as[i]? = some a → ∃ b, bs[i]? = some b ∧ R a b := by
  induction p with
  | nil => intro i a h; simp at h
  | cons r t ih =>
    intro i a h
    cases i with
    | zero => simp at h; subst h; exact ⟨_, rfl, r⟩
    | succ i => simpa using ih (by simpa using h)
theorem start_get {N : List Str} {vs : List V} {i : Nat} {v : V} (h : vs[i]? = some v) : (L2.start N vs)[i]? = some (some v) := by
  unfold L2.start
  have hl : i < vs.length := (List.getElem?_eq_some_iff.mp h).1
  rw [List.getElem?_append_left (by rw [List.length_map]; exact hl), List.getElem?_map, h]; rfl
theorem start_get2 {N : List Str} {vs : List V} {i : Nat} {v : V} (h : (L2.start N vs)[i]? = some (some v)) : vs[i]? = some v := by
  unfold L2.start at h
  by_cases hl : i < vs.length
  · rw [List.getElem?_append_left (by rw [List.length_map]; exact hl), List.getElem?_map] at h
    cases q : vs[i]? with
    | none => rw [q] at h; cases h
    | some u => rw [q] at h; simpa using h
  · rw [List.getElem?_append_right (by rw [List.length_map]; omega)] at h
    have := List.mem_of_getElem? h
    rw [List.mem_replicate] at this
    cases this.2
/-- the start agrees -/
theorem agree_start {K : PySem.W.Frag} {N : List Str} {es : List En} {vs : List V} {F G H : Hp} (hl : vs.length ≤ N.length) (h1 : Same F H) (h2 : Same G H) (h3 : ∀ a o, G a = some o → F a = none) (p : Paired (EnR K F H G) es vs) (nd : (bors es vs).Nodup) :
    Agree K (bAt es vs) (es ++ List.replicate (N.length - es.length) .no) (L2.start N vs) H F G := by
  have el : es.length = vs.length := p.length
  have isb : ∀ i, isObj (es ++ List.replicate (N.length - es.length) .no) i → ∃ a, bAt es vs i = some a := fun i hi => by
    obtain ⟨o, ho⟩ := isObj_iff.mp hi
    rw [getD_app] at ho
    cases q : es[i]? with
    | none => rw [q] at ho; rcases ho with z | z <;> cases z
    | some e =>
      rw [q] at ho
      obtain ⟨v, hv, r⟩ := paired_get p q
      rcases ho with z | z
      · simp only at z; subst z; exact r.elim
      · simp only at z
        subst z
        obtain ⟨a, ho, rfl, _⟩ := r
        exact ⟨a, by unfold bAt; rw [q, hv]⟩
  refine ⟨h1, h2, h3, ?_, fun i d h => ?_, fun i o h => ?_, fun i j a hi hj si sj => ?_, fun i a h => ?_⟩
  · unfold L2.start
    rw [List.length_append, List.length_append, List.length_replicate, List.length_replicate, List.length_map, el]
  · rw [getD_app] at h
    cases q : es[i]? with
    | none => rw [q] at h; cases h
    | some e =>
      rw [q] at h
      simp only at h
      subst h
      obtain ⟨v, hv, r⟩ := paired_get p q
      exact ⟨v, start_get hv, r⟩
  · rw [getD_app] at h
    cases q : es[i]? with
    | none => rw [q] at h; rcases h with z | z <;> cases z
    | some e =>
      rw [q] at h
      obtain ⟨v, hv, r⟩ := paired_get p q
      rcases h with z | z
      · simp only at z; subst z; exact r.elim
      · simp only at z
        subst z
        obtain ⟨a, ho, rfl, r1, r2, r3, r4⟩ := r
        exact ⟨a, ho, start_get hv, r1, r2, r3, r4⟩
  · obtain ⟨a1, b1⟩ := isb i hi
    obtain ⟨a2, b2⟩ := isb j hj
    have c1 := start_get2 si
    have c2 := start_get2 sj
    obtain ⟨_, d1⟩ := bAt_cases b1
    obtain ⟨_, d2⟩ := bAt_cases b2
    rw [c1] at d1
    rw [c2] at d2
    cases d1
    cases d2
    exact bAt_inj p nd i j b1 b2
  · obtain ⟨⟨o, c1⟩, c2⟩ := bAt_cases h
    exact ⟨⟨o, by rw [getD_app, c1]⟩, start_get c2⟩
/-- the contract of the text's body is kept -/
theorem fn_ok {P : Program} {w : World} {K : PySem.W.Frag} {mg : Str → Option Value} {base : Heap} {x : Str} {params : Arguments} {body : List Stmt} {scope : Scope} {f : Addr} {fd : FuncData} {N ps : List Str} {T : List (Str × Nat)} {G : List (Str × PyData)} {ir : ISs} {k : Nat} {Γ : Nat → Ct} {C : Ct}
    (F : FunD K x x params body scope [] [] f fd) (S : FnScope N ps scope)
    (chk : chkSs ir ⟨N, T, G, scope, fun _ => true⟩ body = true) (hc : ∀ es Q, C es Q → bodyCt Γ N.length ir es Q) (hn : ps.length ≤ N.length)
    (free : ∀ x ∈ bNames, mg x = none)
    (fns : ∀ i x n, T[i]? = some (x, n) → ∃ j, j ≤ k ∧ C8.Cal P w K mg base j x (SpOf K n (Γ i)) [] ∧ CtMono (Γ i))
    (con : ∀ x d, (x, d) ∈ G → ∃ u v, mg x = some u ∧ RelV v u ∧ ∀ F, Dp K F v d) :
    FnOk P w K mg base CX0 (k + 1) f fd ps (SpOf K ps.length C) := by
  refine F.ok S (fun vs H Q E h => ?_) fun cdv A outer s H vs Q E hr h => ?_
  · obtain ⟨_, _, _, h, _⟩ := h; exact h
  · obtain ⟨F0, G0, es, hl, s1, s2, dj, p, nd, hC⟩ := h
    refine ⟨_, PSs.nox pss_of, ?_⟩
    have X : XOk (cxOf CX0 P w K mg base N x scope f cdv A outer s H E).nox ⟨N, T, G, scope, fun _ => true⟩ Γ := by
      refine ⟨rfl, S.nd, rfl, fun _ _ => rfl, rfl, S.kind, rfl, ?_, free, fun i x n hi => ?_, con⟩
      · have := hr.un
        show (A.deeper (envOfC x scope s.heap.objs.size f cdv)).units + 65 < cLine
        omega
      · obtain ⟨j, hj, c, m⟩ := fns i x n hi
        exact ⟨j, c, hr.mono hj, m⟩
    have A0 := agree_start (N := N) (by omega) s1 s2 dj p nd
    refine tSsOf_mono (sndSs ir X chk _ _ _ _ _ _ _ A0 (hc es _ hC)) (fun σ1 H1 ⟨F1, ρ1, t1, A1, q⟩ => ?_) (fun v H1 ⟨F1, ρ1, σ1, r, t1, A1, r1, ns, q⟩ => ?_) (fun σ1 H1 ⟨F1, ρ1, t1, A1, q⟩ => q.elim) fun _ _ h => h.elim
    · refine q _ _ F1 t1 A1.fh A1.gh A1.fg .non (outs_pair p 0 fun k a hk => ?_)
      obtain ⟨⟨o, e1⟩, e2⟩ := A1.bor k a hk
      rw [Nat.zero_add, e1]
      obtain ⟨a', ho, z1, z2, z3, z4, z5⟩ := A1.obj k o (.inr e1)
      rw [e2] at z1
      cases z1
      exact ⟨z2, ho, z4, z5⟩
    · refine q _ _ F1 t1 A1.fh A1.gh A1.fg ?_ (outs_pair p 0 fun k a hk => ?_)
      · cases r with
        | val d => exact r1
        | slot i => exact absurd rfl (ns i)
        | obj o =>
          obtain ⟨a, ho, rfl, z1, z2, z3, z4, z5⟩ := r1
          refine ⟨a, ho, rfl, z1, z2, fun hm => ?_, z4, z5⟩
          obtain ⟨i, hi⟩ := bors_at p hm
          obtain ⟨⟨o, e1⟩, e2⟩ := A1.bor i a hi
          exact z3 i (isObj_iff.mpr ⟨o, .inr e1⟩) e2
      · obtain ⟨⟨o, e1⟩, e2⟩ := A1.bor k a hk
        rw [Nat.zero_add, e1]
        obtain ⟨a', ho, z1, z2, z3, z4, z5⟩ := A1.obj k o (.inr e1)
        rw [e2] at z1
        cases z1
        exact ⟨z2, ho, z4, z5⟩
end Bo

set_option Elab.async false
set_option linter.all false
set_option maxRecDepth 100000
set_option maxHeartbeats 8000000
/-! Bo16: a whole law, def by def. -/
namespace Bo
open PySem PySem.Spec PyProof.Rows L2
/-- a def as it is told: its statement's place at the top, name, parameters, names, text -/
structure Ent where
  at_ : Nat
  x : Str
  ps : List Str
  N : List Str
  ir : ISs
  dead : Bool := false
def topAt (b : List Stmt) (i : Nat) : Stmt := b.getD i (.Pass ⟨0, 0, 0, 0⟩)
def Ent.dd (b : List Stmt) (e : Ent) : He.DefD := ⟨(e.x, none), e.x, e.x, defArgs (topAt b e.at_), defBody (topAt b e.at_), defScope (topAt b e.at_), [], []⟩
def Ent.row (e : Ent) : Str × Nat := (e.x, e.ps.length)
/-- the look at a def: the defs ahead of it may be called -/
def Ent.ok (b : List Stmt) (T : List (Str × Nat)) (G : List (Str × PyData)) (e : Ent) : Bool := e.dead ||
  (C8.scC e.N e.ps (defScope (topAt b e.at_)) && decide (e.ps.length ≤ e.N.length)) && chkSs e.ir ⟨e.N, T, G, defScope (topAt b e.at_), fun _ => true⟩ (defBody (topAt b e.at_))
def okAll (b : List Stmt) (G : List (Str × PyData)) : List (Str × Nat) → List Ent → Bool
  | _, [] => true
  | T, e :: es => e.ok b T G && okAll b G (T ++ [e.row]) es
/-- what each def does, the text's contract, and that it may be widened -/
structure Sem (Γ : Nat → Ct) (j : Nat) (e : Ent) : Prop where
  sem : e.dead = false → ∀ es Q, Γ j es Q → bodyCt Γ e.N.length e.ir es Q
  dead : e.dead = true → ∀ es Q, ¬ Γ j es Q
  mono : CtMono (Γ j)
structure Base (K : PySem.W.Frag) (mg : Str → Option Value) (b : List Stmt) (G : List (Str × PyData)) (D : List Ent) : Prop where
  free : ∀ x ∈ bNames, mg x = none
  con : ∀ x d, (x, d) ∈ G → ∃ u v, mg x = some u ∧ RelV v u ∧ ∀ F, Dp K F v d
  fun_ : ∀ e ∈ D, ∃ f fd, FunD K e.x e.x (defArgs (topAt b e.at_)) (defBody (topAt b e.at_)) (defScope (topAt b e.at_)) [] [] f fd ∧ mg e.x = some (.ref f) ∧ ∀ (s : Shared) (us : List Value), us.length = e.ps.length → BindsTo s fd ⟨us, []⟩ (e.ps.zip us)
theorem okAll_get {b : List Stmt} {G : List (Str × PyData)} : ∀ {D : List Ent} {T : List (Str × Nat)}, okAll b G T D = true → ∀ (j : Nat) (e : Ent), D[j]? = some e → e.ok b (T ++ (D.take j).map Ent.row) G = true
  | [], _, _, j, e, h => by simp at h
  | d :: D, T, h, 0, e, he => by
    obtain ⟨h1, _⟩ := and2 (show (d.ok b T G && okAll b G (T ++ [d.row]) D) = true from h)
    simp at he
    subst he
    simpa using h1
  | d :: D, T, h, j + 1, e, he => by
    obtain ⟨_, h2⟩ := and2 (show (d.ok b T G && okAll b G (T ++ [d.row]) D) = true from h)
    have := okAll_get h2 j e (by simpa using he)
    simpa using this
/-- every def keeps its contract -/
theorem cal_all {P : Program} {w : World} {K : PySem.W.Frag} {mg : Str → Option Value} {b : List Stmt} {G : List (Str × PyData)} {D : List Ent} {Γ : Nat → Ct}
    (h : Base K mg b G D) (ok : okAll b G [] D = true) (sm : ∀ j e, D[j]? = some e → Sem Γ j e) : ∀ (j : Nat) (e : Ent), D[j]? = some e →
      ∃ f fd, (∀ base : Heap, FnOk P w K mg base CX0 (j + 1) f fd e.ps (SpOf K e.ps.length (Γ j))) ∧ mg e.x = some (.ref f) ∧ PySem.W.keepIn K (.ref f) = true ∧ ∀ (s : Shared) (us : List Value), us.length = e.ps.length → BindsTo s fd ⟨us, []⟩ (e.ps.zip us) := by
  intro j
  induction j using Nat.strongRecOn with
  | ind j ih =>
    intro e he
    obtain ⟨f, fd, F, hm, hb⟩ := h.fun_ e (List.mem_of_getElem? he)
    have ck := okAll_get ok j e he
    have S := sm j e he
    cases hd : e.dead with
    | true =>
      have no : ∀ vs H Q E, ¬ SpOf K e.ps.length (Γ j) vs H Q E := fun vs H Q E z => by
        obtain ⟨_, _, es, _, _, _, _, _, _, hC⟩ := z
        exact S.dead hd es _ hC
      exact ⟨f, fd, fun base => ⟨fun vs H Q E z => (no vs H Q E z).elim, fun A outer s H args us vs Q E _ _ _ _ z => (no vs H Q E z).elim⟩, hm, F.kp, hb⟩
    | false =>
    have ck : (false || ((C8.scC e.N e.ps (defScope (topAt b e.at_)) && decide (e.ps.length ≤ e.N.length)) && chkSs e.ir ⟨e.N, [] ++ (D.take j).map Ent.row, G, defScope (topAt b e.at_), fun _ => true⟩ (defBody (topAt b e.at_)))) = true := by
      rw [← hd]; exact ck
    rw [Bool.false_or] at ck
    obtain ⟨c1, c2⟩ := and2 ck
    obtain ⟨c1, c3⟩ := and2 c1
    refine ⟨f, fd, fun base => fn_ok F (C8.fnScope_by c1) c2 (S.sem hd) (of_decide_eq_true c3) h.free (fun i x n hi => ?_) h.con, hm, F.kp, hb⟩
    rw [List.nil_append] at hi
    rw [List.getElem?_map] at hi
    obtain ⟨e', h1, h2⟩ := Option.map_eq_some_iff.mp hi
    have hij : i < j := by
      have := (List.getElem?_eq_some_iff.mp h1).1
      rw [List.length_take] at this
      omega
    have h1' : D[i]? = some e' := by
      rw [List.getElem?_take] at h1
      rw [if_pos hij] at h1
      exact h1
    obtain ⟨f', fd', F', m', k', b'⟩ := ih i hij e' h1'
    cases h2
    exact ⟨i + 1, hij, ⟨f', fd', e'.ps, [], F' base, m', k', fun s us _ hl => by rw [List.append_nil] at hl ⊢; exact b' s us hl, .nil⟩, (sm i e' h1').mono⟩
/-- the law's own contract: it answers True -/
def lawCt : Ct := fun es K => ∃ ns : List Int, es = [.val (.list (ns.map .int))] ∧ ns.length ≤ 63 ∧ K (.val (.bool true)) []
theorem dpa_ints {K : PySem.W.Frag} {F : Hp} : ∀ (ns : List Int), DpAll K F (ns.map V.int) (ns.map PyData.int)
  | [] => .nil
  | n :: ns => .cons (.int n) (dpa_ints ns)
theorem law_sp {K : PySem.W.Frag} {H : Hp} {a : Addr} {ns : List Int} (hl : ns.length ≤ 63) (hS : SqL K H a (ns.map V.int)) : SpOf K 1 lawCt [.ref a] H (fun v _ => v = .bl true) (fun _ _ _ => False) := by
  refine ⟨H, fun _ => none, [.val (.list (ns.map .int))], rfl, Same.refl _, (fun _ _ h => by cases h), (fun _ _ h => by cases h), .cons (Dp.lst hS (dpa_ints ns)) .nil, List.nodup_nil, ns, rfl, hl, fun v H' F' h1 h2 h3 h4 r o => ?_⟩
  cases r
  rfl
/-- how a def's parameters are bound -/
def BindsOk (b : List Stmt) (e : Ent) : Prop := ∀ (kV doc pm : Value) (an : Option Addr) (cdv ct : Value) (us : List Value), us.length = e.ps.length →
  bindArgs (PySem.W.fnOf e.x e.x (defArgs (topAt b e.at_)) (defBody (topAt b e.at_)) (defScope (topAt b e.at_)) .none kV doc pm an cdv ct) ⟨us, []⟩ = pure (e.ps.zip us)
theorem base_of {K : PySem.W.Frag} {h : Heap} {mg : Str → Option Value} {fa : List He.Fa} {fn : List He.DefD} {b : List Stmt} {G : List (Str × PyData)} {D : List Ent} (X : K.In h) (N : h.Ns mainGlobals mg) (c : He.SaysD fa fn K)
    (h1 : ∀ e ∈ D, He.Fa.glo e.x ∈ fa) (h2 : ∀ x ∈ bNames, He.Fa.free x ∈ fa) (h3 : ∀ e ∈ D, e.dd b ∈ fn) (hb : ∀ e ∈ D, BindsOk b e) (con : ∀ x d, (x, d) ∈ G → ∃ u v, mg x = some u ∧ RelV v u ∧ ∀ F, Dp K F v d) : Base K mg b G D := by
  refine ⟨fun x hx => He.free_ok X N (c.facts (h2 x hx)), con, fun e he => ?_⟩
  obtain ⟨fd, F⟩ := c.defs (h3 e he)
  have F' : FunD K e.x e.x (defArgs (topAt b e.at_)) (defBody (topAt b e.at_)) (defScope (topAt b e.at_)) [] [] (He.fAd K (e.x, none)) fd := F
  exact ⟨_, fd, F', He.glo_ok X N (c.facts (h1 e he)), fun s us hl => FunD.bindsA F' (hb e he) s us hl⟩
/-- the law's last step -/
theorem law_facts {P : Program} {w : World} {K : PySem.W.Frag} {mg : Str → Option Value} {b : List Stmt} {G : List (Str × PyData)} {D : List Ent} {Γ : Nat → Ct} {j : Nat} {e : Ent} {f : Addr} (B : Base K mg b G D) (ok : okAll b G [] D = true) (sm : ∀ j e, D[j]? = some e → Sem Γ j e)
    (he : D[j]? = some e) (hx : mg e.x = some (.ref f)) (hp : e.ps = [("script" : Str)]) (hl : Γ j = lawCt) :
    ∃ fd : FuncData, (∀ (s : Shared) (v : Value), BindsTo s fd ⟨[v], []⟩ [(("script" : Str), v)]) ∧ ∀ base : Heap, K.In base → base.Ns mainGlobals mg → FnOk P w K mg base CX0 (j + 1) f fd [("script" : Str)] (SpOf K 1 lawCt) := by
  obtain ⟨f', fd, F, m, _, bd⟩ := cal_all (P := P) (w := w) B ok sm j e he
  rw [m] at hx
  cases hx
  rw [hp, hl] at F
  rw [hp] at bd
  exact ⟨fd, fun s v => bd s [v] rfl, fun base _ _ => F base⟩
end Bo

set_option Elab.async false
set_option linter.all false
set_option maxRecDepth 100000
set_option maxHeartbeats 8000000
/-! Bo17: rules for reading the small language: loops, slots. -/
namespace Bo
open PySem L2
/-- not borrowed -/
def nb : En → Prop
  | .bor _ => False
  | _ => True
theorem nb_no : nb .no := trivial
theorem nb_val (d : PyData) : nb (.val d) := trivial
theorem nb_own (o : Ob) : nb (.own o) := trivial
theorem setV_eq {ρ : Ev} {i : Nat} {e : En} {k : Ev → Prop} (h : nb (ρ.get i)) : setV ρ i e k = k (ρ.set i e) := by
  unfold setV
  split
  · rename_i q; rw [q] at h; exact h.elim
  · rfl
theorem get_0 (x : En) (l : Ev) : Ev.get (x :: l) 0 = x := rfl
theorem get_s (x : En) (l : Ev) (n : Nat) : Ev.get (x :: l) (n + 1) = Ev.get l n := rfl
/-! ### reading: one equation a construct; where a slot decides, a word that waits for it -/
def onEn : En → Nat → Ev → (Rs → Ev → Prop) → Prop
  | .val d, _, ρ, K => K (.val d) ρ
  | .own _, i, ρ, K => K (.slot i) ρ
  | .bor _, i, ρ, K => K (.slot i) ρ
  | .no, _, _, _ => False
def resEn : En → Ar
  | .own o => .o o
  | .bor o => .o o
  | .val d => .d d
  | .no => .d .none
def frzEn : En → Nat → Ev → (PyData → Ev → Prop) → Prop
  | .own (.lst xs), i, ρ, K => K (.list xs) (ρ.set i (.val (.list xs)))
  | .val d, _, ρ, K => K d ρ
  | _, _, _, _ => False
def retEn : En → Nat → Ev → (Rs → Ev → Prop) → Prop
  | .own o, i, ρ, K => K (.obj o) (ρ.set i .no)
  | .val d, _, ρ, K => K (.val d) ρ
  | _, _, _, _ => False
def objEn : En → (Ob → (Ob → En) → Prop) → Prop
  | .own o, k => k o .own
  | .bor o, k => k o .bor
  | _, _ => False
def isObEn : En → Prop
  | .own _ => True
  | .bor _ => True
  | _ => False
def isLsEn : En → Prop
  | .own (.lst _) => True
  | .bor (.lst _) => True
  | _ => False
def putEn : En → Ev → Nat → Ob → Ev
  | .own _, ρ, i, o => ρ.set i (.own o)
  | .bor _, ρ, i, o => ρ.set i (.bor o)
  | _, ρ, _, _ => ρ
def agEn' : En → En
  | .own o => .bor o
  | .bor o => .bor o
  | _ => .no
def setEn : En → Ev → Nat → En → (Ev → Prop) → Prop
  | .bor _, _, _, _, _ => False
  | _, ρ, i, e, k => k (ρ.set i e)
def isNEn : Ar → Bool → (Bool → Prop) → Prop
  | .d d, ng, k => k (if ng then !noneB d else noneB d)
  | .o _, ng, k => k ng
def onInt : Rs → (Int → Prop) → Prop
  | .val (.int i), k => k i
  | _, _ => False
def onSeq : PyData → (List PyData → Prop) → Prop
  | .list xs, k => k xs
  | .tuple xs, k => k xs
  | _, _ => False
def onTup : Rs → (List PyData → Prop) → Prop
  | .val (.tuple ds), k => k ds
  | _, _ => False
def augEn (Γ : Nat → Ct) : En → O2 → Nat → IE → Ev → SK → Prop
  | .val x, o, i, e, ρ, K => wE Γ e ρ fun r ρ1 => frz ρ1 r fun y ρ2 => semO o (.d x) (.d y) fun r' => onVal r' fun z => setV ρ2 i (.val z) K.nx
  | .own (.lst _), o, i, e, ρ, K => o = .add ∧ wE Γ e ρ fun r ρ1 => objAt ρ1 i fun ob c => extS ob r fun ob' => K.nx (ρ1.set i (c ob'))
  | _, _, _, _, _, _ => False
section
variable {Γ : Nat → Ct} {ρ : Ev} {K : Rs → Ev → Prop} {S : SK} {i : Nat}
theorem wE_v : wE Γ (.v i) ρ K = onEn (ρ.get i) i ρ K := by simp only [wE]; cases ρ.get i <;> rfl
theorem wE_g {x : Str} {d : PyData} : wE Γ (.g x d) ρ K = K (.val d) ρ := by simp only [wE]
theorem wE_k {d : PyData} : wE Γ (.k d) ρ K = K (.val d) ρ := by simp only [wE]
theorem wE_op {o : O2} {a b : IE} : wE Γ (.op o a b) ρ K = wE Γ a ρ fun x ρ1 => wE Γ b ρ1 fun y ρ2 => semO o (res ρ2 x) (res ρ2 y) fun r => K r ρ2 := by simp only [wE]
theorem wE_neg {a : IE} : wE Γ (.neg a) ρ K = wE Γ a ρ fun x ρ1 => semNeg (res ρ1 x) fun r => K r ρ1 := by simp only [wE]
theorem wE_cmp {c : C2} {a b : IE} : wE Γ (.cmp c a b) ρ K = wE Γ a ρ fun x ρ1 => wE Γ b ρ1 fun y ρ2 => semC c (res ρ2 x) (res ρ2 y) fun b => K (vB b) ρ2 := by simp only [wE]
theorem wE_isN {ng : Bool} {a : IE} : wE Γ (.isN ng a) ρ K = wE Γ a ρ fun x ρ1 => isNEn (res ρ1 x) ng fun b => K (vB b) ρ1 := by
  simp only [wE]
  congr 1
  funext x ρ1
  cases res ρ1 x <;> rfl
theorem wE_ch {c c' : C2} {a b d : IE} : wE Γ (.ch c c' a b d) ρ K = wE Γ a ρ fun x ρ1 => wE Γ b ρ1 fun y ρ2 => semC c (res ρ2 x) (res ρ2 y) fun t =>
    if t = true then wE Γ d ρ2 fun z ρ3 => semC c' (res ρ3 y) (res ρ3 z) fun u => K (vB u) ρ3 else K (vB false) ρ2 := by simp only [wE]
theorem wE_nt {a : IE} : wE Γ (.nt a) ρ K = wE Γ a ρ fun x ρ1 => asB x fun b => K (vB (!b)) ρ1 := by simp only [wE]
theorem wE_bo {b : Bool} {es : IEs} : wE Γ (.bo b es) ρ K = wBo Γ b es ρ fun b ρ1 => K (vB b) ρ1 := by simp only [wE]
theorem wE_ife {c a b : IE} : wE Γ (.ife c a b) ρ K = wE Γ c ρ fun x ρ1 => asB x fun t => if t = true then wE Γ a ρ1 K else wE Γ b ρ1 K := by simp only [wE]
theorem wE_tup {es : IEs} : wE Γ (.tup es) ρ K = wFs Γ es ρ fun ds ρ1 => ds.length ≤ 16777216 ∧ K (.val (.tuple ds)) ρ1 := by simp only [wE]
theorem wE_lst {es : IEs} : wE Γ (.lst es) ρ K = wFs Γ es ρ fun ds ρ1 => ds.length ≤ 16777216 ∧ K (.obj (.lst ds)) ρ1 := by simp only [wE]
theorem wE_dnew : wE Γ .dnew ρ K = K (.obj (.dic [])) ρ := by simp only [wE]
theorem wE_ix {a b : IE} : wE Γ (.ix a b) ρ K = wE Γ a ρ fun x ρ1 => wE Γ b ρ1 fun y ρ2 => semIx (res ρ2 x) (res ρ2 y) fun d => K (.val d) ρ2 := by simp only [wE]
theorem wE_sl {a : IE} {lo hi : IEs} : wE Γ (.sl a lo hi) ρ K = wE Γ a ρ fun x ρ1 => wPart Γ lo ρ1 fun l ρ2 => wPart Γ hi ρ2 fun h ρ3 => semSl (res ρ3 x) l h fun r => K r ρ3 := by simp only [wE]
theorem wE_call {f : Nat} {es : IEs} : wE Γ (.call f es) ρ K = wAs Γ es ρ fun as ρ1 => ((agSlots as).Nodup ∧ ∀ i ∈ agSlots as, isObj ρ1 i) ∧ Γ f (as.map (agEn ρ1)) fun r os => os.length = (agSlots as).length ∧ K r (putObs ρ1 (agSlots as) os) := by simp only [wE]
theorem wE_bf {f : BF} {es : IEs} : wE Γ (.bf f es) ρ K = wOs Γ es ρ fun rs ρ1 => semF f (rs.map (res ρ1)) fun r => K r ρ1 := by simp only [wE]
theorem wE_mut {m : MM} {es : IEs} : wE Γ (.mut m i es) ρ K = (isLst ρ i ∧ wFs Γ es ρ fun ds ρ1 => objAt ρ1 i fun o c => semMM m o ds fun o' d => K (.val d) (ρ1.set i (c o'))) := by simp only [wE]
theorem wE_comp {own : List (Str × Nat)} {tg : Tg} {ik : Ik} {its ifs : IEs} {elt : IE} : wE Γ (.comp own tg ik its ifs elt) ρ K = wIt Γ ik its ρ fun ds ρ1 => noObj ρ1 (own.map (·.2)) ∧
    wComp (own.map (·.2)) tg (wCond Γ ifs) (fun ρ k => wE Γ elt ρ fun r ρ' => frz ρ' r k) ds (wipeE ρ1 (own.map (·.2))) fun xs ρ2 => K (.obj (.lst xs)) (back ρ1 ρ2 (own.map (·.2))) := by simp only [wE]
theorem onEn_val {d : PyData} : onEn (.val d) i ρ K = K (.val d) ρ := rfl
theorem onEn_own {o : Ob} : onEn (.own o) i ρ K = K (.slot i) ρ := rfl
theorem onEn_bor {o : Ob} : onEn (.bor o) i ρ K = K (.slot i) ρ := rfl
theorem res_val {d : PyData} : res ρ (.val d) = .d d := rfl
theorem res_obj {o : Ob} : res ρ (.obj o) = .o o := rfl
theorem res_slot : res ρ (.slot i) = resEn (ρ.get i) := by
  show (match ρ.get i with
    | .own o => Ar.o o
    | .bor o => .o o
    | .val d => .d d
    | .no => .d .none) = _
  cases ρ.get i <;> rfl
theorem frz_val {d : PyData} {k : PyData → Ev → Prop} : frz ρ (.val d) k = k d ρ := rfl
theorem frz_obj {xs : List PyData} {k : PyData → Ev → Prop} : frz ρ (.obj (.lst xs)) k = k (.list xs) ρ := rfl
theorem frz_slot {k : PyData → Ev → Prop} : frz ρ (.slot i) k = frzEn (ρ.get i) i ρ k := by
  unfold frz
  show (match ρ.get i with
    | .own (.lst xs) => k (.list xs) (ρ.set i (.val (.list xs)))
    | .val d => k d ρ
    | _ => False) = _
  cases ρ.get i with
  | own o => cases o <;> rfl
  | _ => rfl
theorem resEn_own {o : Ob} : resEn (.own o) = .o o := rfl
theorem resEn_bor {o : Ob} : resEn (.bor o) = .o o := rfl
theorem resEn_val {d : PyData} : resEn (.val d) = .d d := rfl
theorem frzEn_own {xs : List PyData} {k : PyData → Ev → Prop} : frzEn (.own (.lst xs)) i ρ k = k (.list xs) (ρ.set i (.val (.list xs))) := rfl
theorem frzEn_val {d : PyData} {k : PyData → Ev → Prop} : frzEn (.val d) i ρ k = k d ρ := rfl
theorem retEn_own {o : Ob} : retEn (.own o) i ρ K = K (.obj o) (ρ.set i .no) := rfl
theorem retEn_val {d : PyData} : retEn (.val d) i ρ K = K (.val d) ρ := rfl
theorem objEn_own {o : Ob} {k : Ob → (Ob → En) → Prop} : objEn (.own o) k = k o .own := rfl
theorem objEn_bor {o : Ob} {k : Ob → (Ob → En) → Prop} : objEn (.bor o) k = k o .bor := rfl
theorem isObEn_own {o : Ob} : isObEn (.own o) = True := rfl
theorem isObEn_bor {o : Ob} : isObEn (.bor o) = True := rfl
theorem isLsEn_own {xs : List PyData} : isLsEn (.own (.lst xs)) = True := rfl
theorem isLsEn_bor {xs : List PyData} : isLsEn (.bor (.lst xs)) = True := rfl
theorem putEn_own {o o' : Ob} : putEn (.own o) ρ i o' = ρ.set i (.own o') := rfl
theorem putEn_bor {o o' : Ob} : putEn (.bor o) ρ i o' = ρ.set i (.bor o') := rfl
theorem agEn_own {o : Ob} : agEn' (.own o) = .bor o := rfl
theorem agEn_bor {o : Ob} : agEn' (.bor o) = .bor o := rfl
theorem retR_val {d : PyData} : retR ρ (.val d) K = K (.val d) ρ := rfl
theorem retR_obj {o : Ob} : retR ρ (.obj o) K = K (.obj o) ρ := rfl
theorem retR_slot : retR ρ (.slot i) K = retEn (ρ.get i) i ρ K := by
  unfold retR
  show (match ρ.get i with
    | .own o => K (.obj o) (ρ.set i .no)
    | .val d => K (.val d) ρ
    | _ => False) = _
  cases ρ.get i <;> rfl
theorem objAt_w {k : Ob → (Ob → En) → Prop} : objAt ρ i k = objEn (ρ.get i) k := by
  unfold objAt
  cases ρ.get i <;> rfl
theorem isObj_w : isObj ρ i = isObEn (ρ.get i) := by
  unfold isObj
  cases ρ.get i <;> rfl
theorem isLst_w : isLst ρ i = isLsEn (ρ.get i) := by
  unfold isLst
  cases ρ.get i with
  | own o => cases o <;> rfl
  | bor o => cases o <;> rfl
  | _ => rfl
theorem putOb_w {o : Ob} : putOb ρ i o = putEn (ρ.get i) ρ i o := by
  unfold putOb
  cases ρ.get i <;> rfl
theorem agEn_d {d : PyData} : agEn ρ (.d d) = .val d := rfl
theorem agEn_s : agEn ρ (.s i) = agEn' (ρ.get i) := by
  show (match ρ.get i with
    | .own o => En.bor o
    | .bor o => .bor o
    | _ => .no) = _
  cases ρ.get i <;> rfl
theorem obOf_bor {o : Ob} : obOf (.bor o) = o := rfl
theorem obOf_own {o : Ob} : obOf (.own o) = o := rfl
theorem notSlot_val {d : PyData} : notSlot (.val d) = true := rfl
theorem notSlot_obj {o : Ob} : notSlot (.obj o) = true := rfl
theorem ag_nil : (([] : List Nat).Nodup ∧ ∀ (j : Nat), j ∈ ([] : List Nat) → isObEn (ρ.get j)) = True := eq_true ⟨List.nodup_nil, fun j hj => by simp at hj⟩
theorem ag_one : ([i].Nodup ∧ ∀ (j : Nat), j ∈ [i] → isObEn (ρ.get j)) = isObEn (ρ.get i) := by
  simp
theorem setV_w {e : En} {k : Ev → Prop} : setV ρ i e k = setEn (ρ.get i) ρ i e k := by
  unfold setV
  cases ρ.get i <;> rfl
theorem setEn_nb {a e : En} {k : Ev → Prop} (h : nb a) : setEn a ρ i e k = k (ρ.set i e) := by
  cases a <;> first | rfl | exact h.elim
theorem setEn_no {e : En} {k : Ev → Prop} : setEn .no ρ i e k = k (ρ.set i e) := rfl
theorem setEn_val {d : PyData} {e : En} {k : Ev → Prop} : setEn (.val d) ρ i e k = k (ρ.set i e) := rfl
theorem setEn_own {o : Ob} {e : En} {k : Ev → Prop} : setEn (.own o) ρ i e k = k (ρ.set i e) := rfl
theorem isNEn_d {d : PyData} {ng : Bool} {k : Bool → Prop} : isNEn (.d d) ng k = k (if ng then !noneB d else noneB d) := rfl
theorem isNEn_o {o : Ob} {ng : Bool} {k : Bool → Prop} : isNEn (.o o) ng k = k ng := rfl
theorem asB_b {b : Bool} {k : Bool → Prop} : asB (.val (.bool b)) k = k b := rfl
theorem onVal_v {d : PyData} {k : PyData → Prop} : onVal (.val d) k = k d := rfl
theorem setR_val {d : PyData} {k : Ev → Prop} : setR ρ i (.val d) k = setV ρ i (.val d) k := rfl
theorem setR_obj {o : Ob} {k : Ev → Prop} : setR ρ i (.obj o) k = setV ρ i (.own o) k := rfl
theorem setR_slot {j : Nat} {k : Ev → Prop} : setR ρ i (.slot j) k = frz ρ (.slot j) fun d ρ1 => setV ρ1 i (.val d) k := rfl
theorem setRs_nil {k : Ev → Prop} : setRs ρ [] [] k = k ρ := rfl
theorem setRs_cons {is : List Nat} {r : Rs} {rs : List Rs} {k : Ev → Prop} : setRs ρ (i :: is) (r :: rs) k = setR ρ i r fun ρ1 => setRs ρ1 is rs k := rfl
theorem setVs_nil {k : Ev → Prop} : setVs ρ [] [] k = k ρ := rfl
theorem setVs_cons {is : List Nat} {d : PyData} {ds : List PyData} {k : Ev → Prop} : setVs ρ (i :: is) (d :: ds) k = setV ρ i (.val d) fun ρ1 => setVs ρ1 is ds k := rfl
theorem asgT_one {d : PyData} {k : Ev → Prop} : asgT (.one i) d ρ k = setV ρ i (.val d) k := rfl
theorem asgT_tup {is : List Nat} {ds : List PyData} {k : Ev → Prop} : asgT (.tup is) (.tuple ds) ρ k = setVs ρ is ds k := rfl
theorem extS_l {xs ys : List PyData} {k : Ob → Prop} : extS (.lst xs) (.obj (.lst ys)) k = (xs.length + ys.length ≤ 16777216 ∧ k (.lst (xs ++ ys))) := rfl
theorem opt_s {α : Type} {x : α} {k : α → Prop} : opt (some x) k = k x := rfl
theorem wFs_nil {k : List PyData → Ev → Prop} : wFs Γ .nil ρ k = k [] ρ := by simp only [wFs]
theorem wFs_cons {e : IE} {es : IEs} {k : List PyData → Ev → Prop} : wFs Γ (.cons e es) ρ k = wE Γ e ρ fun r ρ1 => frz ρ1 r fun d ρ2 => wFs Γ es ρ2 fun ds ρ3 => k (d :: ds) ρ3 := by simp only [wFs]
theorem wOs_nil {k : List Rs → Ev → Prop} : wOs Γ .nil ρ k = k [] ρ := by simp only [wOs]
theorem wOs_cons {e : IE} {es : IEs} {k : List Rs → Ev → Prop} : wOs Γ (.cons e es) ρ k = wE Γ e ρ fun r ρ1 => wOs Γ es ρ1 fun rs ρ2 => k (r :: rs) ρ2 := by simp only [wOs]
theorem wAs_nil {k : List Ag → Ev → Prop} : wAs Γ .nil ρ k = k [] ρ := by simp only [wAs]
theorem wAs_cons {e : IE} {es : IEs} {k : List Ag → Ev → Prop} : wAs Γ (.cons e es) ρ k = wE Γ e ρ fun r ρ1 => frz ρ1 r fun d ρ2 => wAs Γ es ρ2 fun ds ρ3 => k (.d d :: ds) ρ3 := by simp only [wAs]
theorem wAs_bor {es : IEs} {k : List Ag → Ev → Prop} : wAs Γ (.bor i es) ρ k = (isObj ρ i ∧ wAs Γ es ρ fun ds ρ3 => k (.s i :: ds) ρ3) := by simp only [wAs]
theorem wBo_one {b : Bool} {e : IE} {k : Bool → Ev → Prop} : wBo Γ b (.cons e .nil) ρ k = wE Γ e ρ fun r ρ1 => asB r fun c => k c ρ1 := by simp only [wBo]
theorem wBo_cons {b : Bool} {e e' : IE} {es : IEs} {k : Bool → Ev → Prop} : wBo Γ b (.cons e (.cons e' es)) ρ k = wE Γ e ρ fun r ρ1 => asB r fun c => if c = b then wBo Γ b (.cons e' es) ρ1 k else k c ρ1 := by simp only [wBo]
theorem wPart_nil {k : Option Int → Ev → Prop} : wPart Γ .nil ρ k = k none ρ := by simp only [wPart]
theorem wPart_one {e : IE} {k : Option Int → Ev → Prop} : wPart Γ (.cons e .nil) ρ k = wE Γ e ρ fun r ρ1 => onInt r fun j => k (some j) ρ1 := by
  simp only [wPart]
  congr 1
  funext r ρ1
  cases r with
  | val d => cases d <;> rfl
  | _ => rfl
theorem wCond_nil {k : Bool → Ev → Prop} : wCond Γ .nil ρ k = k true ρ := by simp only [wCond]
theorem wCond_one {e : IE} {k : Bool → Ev → Prop} : wCond Γ (.cons e .nil) ρ k = wE Γ e ρ fun r ρ1 => asB r fun b => k b ρ1 := by simp only [wCond]
theorem wIt_rng1 {e : IE} {k : List PyData → Ev → Prop} : wIt Γ .rng1 (.cons e .nil) ρ k = wE Γ e ρ fun r ρ1 => onInt r fun j => (Small j ∧ j ≤ 16777216) ∧ k (rngL 0 j) ρ1 := by
  simp only [wIt]
  congr 1
  funext r ρ1
  cases r with
  | val d => cases d <;> rfl
  | _ => rfl
theorem wIt_rng2 {e e' : IE} {k : List PyData → Ev → Prop} : wIt Γ .rng2 (.cons e (.cons e' .nil)) ρ k = wE Γ e ρ fun r ρ1 => wE Γ e' ρ1 fun r' ρ2 => onInt r fun i => onInt r' fun j => (Small i ∧ Small j ∧ j - i ≤ 16777216) ∧ k (rngL i j) ρ2 := by
  simp only [wIt]
  congr 1
  funext r ρ1
  congr 1
  funext r' ρ2
  cases r with
  | val d => cases d <;> first | rfl | (cases r' with
    | val d' => cases d' <;> rfl
    | _ => rfl)
  | _ => rfl
theorem wIt_seq {e : IE} {k : List PyData → Ev → Prop} : wIt Γ .seq (.cons e .nil) ρ k = wE Γ e ρ fun r ρ1 => frz ρ1 r fun d ρ2 => onSeq d fun xs => k xs ρ2 := by
  simp only [wIt]
  congr 1
  funext r ρ1
  congr 1
  funext d ρ2
  cases d <;> rfl
theorem onInt_i {j : Int} {k : Int → Prop} : onInt (.val (.int j)) k = k j := rfl
theorem onSeq_l {xs : List PyData} {k : List PyData → Prop} : onSeq (.list xs) k = k xs := rfl
theorem onSeq_t {xs : List PyData} {k : List PyData → Prop} : onSeq (.tuple xs) k = k xs := rfl
theorem onTup_t {xs : List PyData} {k : List PyData → Prop} : onTup (.val (.tuple xs)) k = k xs := rfl
theorem wSs_nil : wSs Γ .nil ρ S = S.nx ρ := by simp only [wSs]
theorem wSs_cons {s : IS} {ss : ISs} : wSs Γ (.cons s ss) ρ S = wS Γ s ρ { nx := fun ρ1 => wSs Γ ss ρ1 S, rt := S.rt, bk := S.bk } := by simp only [wSs]
theorem wS_set {e : IE} : wS Γ (.set i e) ρ S = wE Γ e ρ fun r ρ1 => setR ρ1 i r S.nx := by simp only [wS]
theorem wS_setT {is : List Nat} {e : IE} : wS Γ (.setT is e) ρ S = wE Γ e ρ fun r ρ1 => onTup r fun ds => setVs ρ1 is ds S.nx := by
  simp only [wS]
  congr 1
  funext r ρ1
  cases r with
  | val d => cases d <;> rfl
  | _ => rfl
theorem wS_par {is : List Nat} {es : IEs} : wS Γ (.par is es) ρ S = wOs Γ es ρ fun rs ρ1 => rs.all notSlot = true ∧ setRs ρ1 is rs S.nx := by simp only [wS]
theorem wS_setI {ix e : IE} : wS Γ (.setI i ix e) ρ S = wE Γ e ρ fun r ρ1 => frz ρ1 r fun d ρ2 => isObj ρ2 i ∧ wE Γ ix ρ2 fun r' ρ3 => frz ρ3 r' fun d' ρ4 => objAt ρ4 i fun o c => semSetI o d' d fun o' => S.nx (ρ4.set i (c o')) := by simp only [wS]
theorem wS_aug {o : O2} {e : IE} : wS Γ (.aug o i e) ρ S = augEn Γ (ρ.get i) o i e ρ S := by
  simp only [wS]
  cases ρ.get i with
  | own ob => cases ob <;> rfl
  | _ => rfl
theorem augEn_val {x : PyData} {o : O2} {e : IE} : augEn Γ (.val x) o i e ρ S = wE Γ e ρ fun r ρ1 => frz ρ1 r fun y ρ2 => semO o (.d x) (.d y) fun r' => onVal r' fun z => setV ρ2 i (.val z) S.nx := rfl
theorem augEn_own {xs : List PyData} {o : O2} {e : IE} : augEn Γ (.own (.lst xs)) o i e ρ S = (o = .add ∧ wE Γ e ρ fun r ρ1 => objAt ρ1 i fun ob c => extS ob r fun ob' => S.nx (ρ1.set i (c ob'))) := rfl
theorem wS_augI {o : O2} {ix e : IE} : wS Γ (.augI o i ix e) ρ S = (isObj ρ i ∧ wE Γ ix ρ fun r ρ1 => frz ρ1 r fun j ρ2 => objAt ρ2 i fun ob c => semIx (.o ob) (.d j) fun x =>
      wE Γ e ρ2 fun r' ρ3 => frz ρ3 r' fun y ρ4 => objAt ρ4 i fun ob' c' => semO o (.d x) (.d y) fun r'' => onVal r'' fun z => semSetI ob' j z fun ob'' => S.nx (ρ4.set i (c' ob''))) := by simp only [wS]
theorem wS_ex {e : IE} : wS Γ (.ex e) ρ S = wE Γ e ρ fun _ ρ1 => S.nx ρ1 := by simp only [wS]
theorem wS_ret {e : IE} : wS Γ (.ret e) ρ S = wE Γ e ρ fun r ρ1 => retR ρ1 r S.rt := by simp only [wS]
theorem wS_retN : wS Γ .retN ρ S = S.rt (.val .none) ρ := by simp only [wS]
theorem wS_ifs {c : IE} {a b : ISs} : wS Γ (.ifs c a b) ρ S = wE Γ c ρ fun r ρ1 => asB r fun t => if t = true then wSs Γ a ρ1 S else wSs Γ b ρ1 S := by simp only [wS]
theorem wS_fo {tg : Tg} {ik : Ik} {its : IEs} {body : ISs} : wS Γ (.fo tg ik its body) ρ S = wIt Γ ik its ρ fun ds ρ1 => wFor tg (wSs Γ body) ds ρ1 S := by simp only [wS]
theorem wS_brk : wS Γ .brk ρ S = S.bk ρ := by simp only [wS]
theorem wS_pas : wS Γ .pas ρ S = S.nx ρ := by simp only [wS]
end
section
variable {k : PyData → Prop} {kr : Rs → Prop} {kb : Bool → Prop}
theorem ix_t {xs : List PyData} {j : Int} : semIx (.d (.tuple xs)) (.d (.int j)) k = opt (atI xs j) k := rfl
theorem ix_l {xs : List PyData} {j : Int} : semIx (.d (.list xs)) (.d (.int j)) k = opt (atI xs j) k := rfl
theorem ix_o {xs : List PyData} {j : Int} : semIx (.o (.lst xs)) (.d (.int j)) k = opt (atI xs j) k := rfl
theorem sl_t {xs : List PyData} {lo hi : Option Int} : semSl (.d (.tuple xs)) lo hi kr = kr (.val (.tuple (cutL xs lo hi))) := rfl
theorem sl_l {xs : List PyData} {lo hi : Option Int} : semSl (.d (.list xs)) lo hi kr = kr (.obj (.lst (cutL xs lo hi))) := rfl
theorem sl_o {xs : List PyData} {lo hi : Option Int} : semSl (.o (.lst xs)) lo hi kr = kr (.obj (.lst (cutL xs lo hi))) := rfl
theorem o_add {i j : Int} : semO .add (.d (.int i)) (.d (.int j)) kr = kr (.val (.int (i + j))) := rfl
theorem o_sub {i j : Int} : semO .sub (.d (.int i)) (.d (.int j)) kr = kr (.val (.int (i - j))) := rfl
theorem o_mul {i j : Int} : semO .mul (.d (.int i)) (.d (.int j)) kr = (MulOk i j ∧ kr (.val (.int (i * j)))) := rfl
theorem o_fdiv {i j : Int} : semO .fdiv (.d (.int i)) (.d (.int j)) kr = ((0 < j ∧ j.natAbs.log2 < 9000) ∧ kr (.val (.int (i / j)))) := rfl
theorem o_mod {i j : Int} : semO .mod (.d (.int i)) (.d (.int j)) kr = (0 < j ∧ kr (.val (.int (i % j)))) := rfl
theorem o_pow {i j : Int} : semO .pow (.d (.int i)) (.d (.int j)) kr = ((0 ≤ j ∧ j ≤ 1000000 ∧ i.natAbs < 2 ^ 64) ∧ kr (.val (.int (i ^ j.toNat)))) := rfl
theorem o_addT {xs ys : List PyData} : semO .add (.d (.tuple xs)) (.d (.tuple ys)) kr = (xs.length + ys.length ≤ 16777216 ∧ kr (.val (.tuple (xs ++ ys)))) := rfl
theorem o_addDD {xs ys : List PyData} : semO .add (.d (.list xs)) (.d (.list ys)) kr = (xs.length + ys.length ≤ 16777216 ∧ kr (.obj (.lst (xs ++ ys)))) := rfl
theorem o_addDO {xs ys : List PyData} : semO .add (.d (.list xs)) (.o (.lst ys)) kr = (xs.length + ys.length ≤ 16777216 ∧ kr (.obj (.lst (xs ++ ys)))) := rfl
theorem o_addOD {xs ys : List PyData} : semO .add (.o (.lst xs)) (.d (.list ys)) kr = (xs.length + ys.length ≤ 16777216 ∧ kr (.obj (.lst (xs ++ ys)))) := rfl
theorem o_addOO {xs ys : List PyData} : semO .add (.o (.lst xs)) (.o (.lst ys)) kr = (xs.length + ys.length ≤ 16777216 ∧ kr (.obj (.lst (xs ++ ys)))) := rfl
theorem neg_i {i : Int} : semNeg (.d (.int i)) kr = kr (.val (.int (-i))) := rfl
theorem c_lt {i j : Int} : semC .lt (.d (.int i)) (.d (.int j)) kb = kb (decide (i < j)) := rfl
theorem c_le {i j : Int} : semC .le (.d (.int i)) (.d (.int j)) kb = kb (decide (i ≤ j)) := rfl
theorem c_gt {i j : Int} : semC .gt (.d (.int i)) (.d (.int j)) kb = kb (decide (j < i)) := rfl
theorem c_ge {i j : Int} : semC .ge (.d (.int i)) (.d (.int j)) kb = kb (decide (j ≤ i)) := rfl
theorem eqv_int (i j : Int) : PyData.eqv (.int i) (.int j) = decide (i = j) := by
  by_cases h : i = j
  · subst h; simp [PyData.eqv]
  · simp [PyData.eqv, h]
theorem shp_int (i : Int) : SeqAt.shaped (.int i) = true := rfl
theorem c_eqI {i j : Int} : semC .eq (.d (.int i)) (.d (.int j)) kb = kb (decide (i = j)) := by
  show ((SeqAt.shaped (.int i) = true ∧ SeqAt.shaped (.int j) = true) ∧ kb (PyData.eqv (.int i) (.int j))) = _
  rw [eqv_int, shp_int, shp_int]; simp
theorem c_neI {i j : Int} : semC .ne (.d (.int i)) (.d (.int j)) kb = kb (!decide (i = j)) := by
  show ((SeqAt.shaped (.int i) = true ∧ SeqAt.shaped (.int j) = true) ∧ kb (!PyData.eqv (.int i) (.int j))) = _
  rw [eqv_int, shp_int, shp_int]; simp
theorem f_lenT {xs : List PyData} : semF .len [.d (.tuple xs)] kr = kr (.val (.int xs.length)) := rfl
theorem f_lenL {xs : List PyData} : semF .len [.d (.list xs)] kr = kr (.val (.int xs.length)) := rfl
theorem f_lenO {xs : List PyData} : semF .len [.o (.lst xs)] kr = kr (.val (.int xs.length)) := rfl
theorem f_int {i : Int} : semF .int [.d (.int i)] kr = kr (.val (.int i)) := rfl
theorem f_intB {b : Bool} : semF .int [.d (.bool b)] kr = kr (.val (.int (if b then 1 else 0))) := rfl
theorem f_abs {i : Int} : semF .abs [.d (.int i)] kr = kr (.val (.int (if i < 0 then -i else i))) := rfl
theorem f_max2 {i j : Int} : semF .max2 [.d (.int i), .d (.int j)] kr = kr (.val (.int (if j > i then j else i))) := rfl
theorem f_min2 {i j : Int} : semF .min2 [.d (.int i), .d (.int j)] kr = kr (.val (.int (if j < i then j else i))) := rfl
theorem f_tupT {xs : List PyData} : semF .tuple [.d (.tuple xs)] kr = kr (.val (.tuple xs)) := rfl
theorem f_tupL {xs : List PyData} : semF .tuple [.d (.list xs)] kr = kr (.val (.tuple xs)) := rfl
theorem f_tupO {xs : List PyData} : semF .tuple [.o (.lst xs)] kr = kr (.val (.tuple xs)) := rfl
theorem f_lstT {xs : List PyData} : semF .list [.d (.tuple xs)] kr = kr (.obj (.lst xs)) := rfl
theorem f_lstL {xs : List PyData} : semF .list [.d (.list xs)] kr = kr (.obj (.lst xs)) := rfl
theorem f_lstO {xs : List PyData} : semF .list [.o (.lst xs)] kr = kr (.obj (.lst xs)) := rfl
theorem f_isB {d : PyData} : semF .isB [.d d] kr = kr (vB (isBd d)) := rfl
theorem f_isI {d : PyData} : semF .isI [.d d] kr = kr (vB (isId d)) := rfl
theorem f_isS {d : PyData} : semF .isS [.d d] kr = kr (vB (isSd d)) := rfl
theorem f_isT {d : PyData} : semF .isT [.d d] kr = kr (vB (isTd d)) := rfl
theorem allI_map : ∀ (ns : List Int), allI (ns.map .int) = some ns
  | [] => rfl
  | n :: ns => by
    show (allI (ns.map .int)).map (n :: ·) = _
    rw [allI_map ns]; rfl
theorem f_sumL {ns : List Int} : semF .sum [.o (.lst (ns.map .int))] kr = kr (.val (.int ns.sum)) := by
  show (opt (allI (ns.map .int)) fun ns => kr (.val (.int ns.sum))) = _
  rw [allI_map]; rfl
theorem f_sumT {ns : List Int} : semF .sum [.d (.tuple (ns.map .int))] kr = kr (.val (.int ns.sum)) := by
  show (opt (allI (ns.map .int)) fun ns => kr (.val (.int ns.sum))) = _
  rw [allI_map]; rfl
theorem mx_int {P : PyData → List PyData → Prop} {Q : Prop} {F : List Int → Prop} {ns : List Int} : (match allI (ns.map .int), ns.map PyData.int with
    | some ns, _ => F ns
    | none, x :: r => P x r
    | none, [] => Q) = F ns := by
  rw [allI_map]
theorem f_maxO {ns : List Int} : semF .max [.o (.lst (ns.map .int))] kr = (ns ≠ [] ∧ kr (.val (.int (maxI ns)))) := mx_int
theorem f_minO {ns : List Int} : semF .min [.o (.lst (ns.map .int))] kr = (ns ≠ [] ∧ kr (.val (.int (minI ns)))) := mx_int
theorem f_maxT {ns : List Int} : semF .max [.d (.tuple (ns.map .int))] kr = (ns ≠ [] ∧ kr (.val (.int (maxI ns)))) := mx_int
theorem f_minT {ns : List Int} : semF .min [.d (.tuple (ns.map .int))] kr = (ns ≠ [] ∧ kr (.val (.int (minI ns)))) := mx_int
theorem f_sortO {ns : List Int} : semF .sorted [.o (.lst (ns.map .int))] kr = kr (.obj (.lst ((sortI ns).map .int))) := by
  show (match allI (ns.map .int) with
    | some ns => kr (.obj (.lst ((sortI ns).map .int)))
    | none => SrtOk (ns.map .int) ∧ kr (.obj (.lst (srtD false (ns.map .int))))) = _
  rw [allI_map]
theorem f_setO {ns : List Int} : semF .sortedSet [.o (.lst (ns.map .int))] kr = (ns.length < 64 ∧ kr (.obj (.lst ((setU ns).map .int)))) := by
  show (opt (allI (ns.map .int)) fun ns => ns.length < 64 ∧ kr (.obj (.lst ((setU ns).map .int)))) = _
  rw [allI_map]; rfl
theorem mm_app {xs : List PyData} {d : PyData} {km : Ob → PyData → Prop} : semMM .append (.lst xs) [d] km = (xs.length < 16777216 ∧ km (.lst (xs ++ [d])) .none) := rfl
theorem mm_rev {xs : List PyData} {km : Ob → PyData → Prop} : semMM .reverse (.lst xs) [] km = km (.lst xs.reverse) .none := rfl
theorem mm_pop {xs : List PyData} {km : Ob → PyData → Prop} : semMM .pop (.lst xs) [] km = opt xs.getLast? fun d => km (.lst xs.dropLast) d := rfl
theorem si_l {xs : List PyData} {i : Int} {d : PyData} {ko : Ob → Prop} : semSetI (.lst xs) (.int i) d ko = opt (ixN xs.length i) fun j => ko (.lst (xs.set j d)) := rfl
end
section
variable {tg : Tg} {body : Ev → SK → Prop} {K : SK}
theorem wFor_ind (I : List PyData → Ev → Prop) (step : ∀ d r ρ (k : Ev → Prop), I (d :: r) ρ → (∀ ρ', I r ρ' → k ρ') → asgT tg d ρ fun ρ1 => body ρ1 { nx := k, rt := K.rt, bk := K.nx })
    (fin : ∀ ρ, I [] ρ → K.nx ρ) : ∀ (ds : List PyData) (ρ : Ev), I ds ρ → wFor tg body ds ρ K
  | [], ρ, h => fin ρ h
  | d :: ds, ρ, h => step d ds ρ _ h fun ρ' h' => wFor_ind I step fin ds ρ' h'
/-- over the images of a list -/
theorem wFor_map {α : Type} (enc : α → PyData) (I : List α → Ev → Prop) (step : ∀ a r ρ (k : Ev → Prop), I (a :: r) ρ → (∀ ρ', I r ρ' → k ρ') → asgT tg (enc a) ρ fun ρ1 => body ρ1 { nx := k, rt := K.rt, bk := K.nx })
    (fin : ∀ ρ, I [] ρ → K.nx ρ) : ∀ (as : List α) (ρ : Ev), I as ρ → wFor tg body (as.map enc) ρ K
  | [], ρ, h => fin ρ h
  | a :: as, ρ, h => step a as ρ _ h fun ρ' h' => wFor_map enc I step fin as ρ' h'
end
section
variable {vs : List Nat} {tg : Tg} {cond : Ev → (Bool → Ev → Prop) → Prop} {elt : Ev → (PyData → Ev → Prop) → Prop}
/-- a comprehension that changes nothing else -/
theorem wComp_pure {α : Type} (enc : α → PyData) (f : α → Option PyData) {ρ : Ev} : ∀ (as : List α) (K : List PyData → Ev → Prop)
    (_ : ∀ a ∈ as, ∀ (kt : PyData → Ev → Prop) (kf : Ev → Prop), (∀ x ρ', f a = some x → wipeE ρ' vs = ρ → kt x ρ') → (∀ ρ', f a = none → wipeE ρ' vs = ρ → kf ρ') → asgT tg (enc a) ρ fun ρ1 => cond ρ1 fun b ρ2 => if b = true then elt ρ2 kt else kf ρ2)
    (_ : K (as.filterMap f) ρ), wComp vs tg cond elt (as.map enc) ρ K
  | [], K, _, h => h
  | a :: as, K, hs, h => by
    refine hs a List.mem_cons_self _ _ (fun x ρ' e w => ?_) (fun ρ' e w => ?_)
    · rw [w]
      refine wComp_pure enc f as _ (fun b hb => hs b (List.mem_cons_of_mem _ hb)) ?_
      rw [List.filterMap_cons, e] at h
      exact h
    · rw [w]
      refine wComp_pure enc f as _ (fun b hb => hs b (List.mem_cons_of_mem _ hb)) ?_
      rw [List.filterMap_cons, e] at h
      exact h
/-- one that changes things: what is left, what is found, the slots -/
theorem wComp_ind {α : Type} (enc : α → PyData) (I : List α → List PyData → Ev → Prop) {K : List PyData → Ev → Prop}
    (step : ∀ a r acc ρ (kt : PyData → Ev → Prop) (kf : Ev → Prop), I (a :: r) acc ρ → (∀ x ρ', I r (acc ++ [x]) (wipeE ρ' vs) → kt x ρ') → (∀ ρ', I r acc (wipeE ρ' vs) → kf ρ') → asgT tg (enc a) ρ fun ρ1 => cond ρ1 fun b ρ2 => if b = true then elt ρ2 kt else kf ρ2)
    (fin : ∀ acc ρ, I [] acc ρ → K acc ρ) : ∀ (as : List α) (acc : List PyData) (ρ : Ev), I as acc ρ → wComp vs tg cond elt (as.map enc) ρ fun xs ρ' => K (acc ++ xs) ρ'
  | [], acc, ρ, h => by
    show K (acc ++ []) ρ
    rw [List.append_nil]
    exact fin acc ρ h
  | a :: as, acc, ρ, h => by
    refine step a as acc ρ _ _ h (fun x ρ' h' => ?_) (fun ρ' h' => ?_)
    · have := wComp_ind enc I step fin as (acc ++ [x]) _ h'
      simpa [List.append_assoc] using this
    · exact wComp_ind enc I step fin as acc _ h'
end
theorem mono_of {C : Ct} {pre : List En → Prop} {post : List En → Rs → List Ob → Prop} (h : ∀ es K, C es K ↔ pre es ∧ ∀ r os, post es r os → K r os) : CtMono C := fun es k k' hk c => by
  rw [h] at c ⊢
  exact ⟨c.1, fun r os q => hk r os (c.2 r os q)⟩
/-! ### contracts that many laws share -/
def intO (l : List Int) : Ob := .lst (l.map .int)
def ctDraws : Ct := fun es K => ∃ (ns : List Int) (m : Int), es = [.val (.list (ns.map .int)), .val (.int m)] ∧ (0 ≤ m ∧ m ≤ 1000) ∧ ∀ l : List Int, K (.obj (intO l)) []
def ctTake : Ct := fun es K => ∃ (l : List Int) (m : Int), es = [.bor (intO l), .val (.int m)] ∧ 0 < m ∧ ∀ (v : Int) (l' : List Int), 0 ≤ v → v < m → K (.val (.int v)) [intO l']
def ctCell : Ct := fun es K => ∃ (ns l : List Int), es = [.val (.list (ns.map .int)), .bor (intO l)] ∧ ∀ (v : Int) (l' : List Int), v.natAbs < 10 ^ 60 → K (.val (.int v)) [intO l']
/-- data of the tests: depth at most n -/
def shp : Nat → PyData → Prop
  | 0, _ => False
  | n + 1, d => match d with
    | .none => True
    | .bool _ => True
    | .int _ => True
    | .str _ => SeqAt.shaped d = true
    | .tuple ds => ds.length ≤ 1000000 ∧ ∀ x ∈ ds, shp n x
    | _ => False
def ctSame (n : Nat) : Ct := fun es K => ∃ d, es = [.val d, .val d] ∧ shp n d ∧ K (vB true) []
theorem mono_draws : CtMono ctDraws := fun es k k' h ⟨ns, m, e, b, q⟩ => ⟨ns, m, e, b, fun l => h _ _ (q l)⟩
theorem mono_take : CtMono ctTake := fun es k k' h ⟨l, m, e, b, q⟩ => ⟨l, m, e, b, fun v l' h1 h2 => h _ _ (q v l' h1 h2)⟩
theorem mono_cell : CtMono ctCell := fun es k k' h ⟨ns, l, e, q⟩ => ⟨ns, l, e, fun v l' h1 => h _ _ (q v l' h1)⟩
theorem mono_same (n : Nat) : CtMono (ctSame n) := fun es k k' h ⟨d, e, s, q⟩ => ⟨d, e, s, h _ _ q⟩
theorem mono_law : CtMono lawCt := fun es k k' h ⟨ns, e, b, q⟩ => ⟨ns, e, b, h _ _ q⟩
end Bo

set_option Elab.async false
set_option linter.all false
set_option maxRecDepth 100000
set_option maxHeartbeats 4000000
/-! Bo18: the helpers that the laws share. -/
namespace Bo
open PySem L2
variable {Γ : Nat → Ct}
theorem ixN_nn {n : Nat} {j : Int} (h0 : 0 ≤ j) (h1 : j < n) : ixN n j = some j.toNat := by
  unfold ixN
  rw [if_pos h0, if_pos h1]
theorem atI_nn {α : Type} {xs : List α} {j : Int} (h0 : 0 ≤ j) (h1 : j < xs.length) : atI xs j = xs[j.toNat]? := by
  unfold atI
  rw [ixN_nn h0 h1]; rfl
theorem atI_int {l : List Int} {j : Int} (h0 : 0 ≤ j) (h1 : j < l.length) : atI (l.map PyData.int) j = some (.int (l.getD j.toNat 0)) := by
  rw [atI_nn h0 (by rw [List.length_map]; exact h1), List.getElem?_map, List.getD_eq_getElem?_getD, List.getElem?_eq_getElem (by omega)]; rfl
theorem atI_zero {α : Type} {x : α} {xs : List α} : atI (x :: xs) 0 = some x := by
  rw [atI_nn (by omega) (by rw [List.length_cons]; omega)]; rfl
def irTake : ISs := (.cons (.ifs (.cmp .eq (.bf .len (.cons (.v 0) .nil)) (.k (.int 0))) (.cons (.ret (.k (.int 0)))
  .nil) .nil)
  (.cons (.ret (.op .mod (.bf .int (.cons (.mut .pop 0 .nil) .nil)) (.v 1)))
  .nil))
theorem s_take {es : List En} {K : Rs → List Ob → Prop} (h : ctTake es K) : bodyCt Γ 2 irTake es K := by
  obtain ⟨l, m, rfl, hm, h⟩ := h
  unfold irTake
  simp only [bodyCt, wE_v, wE_g, wE_k, wE_op, wE_neg, wE_cmp, wE_isN, wE_ch, wE_nt, wE_bo, wE_ife, wE_tup, wE_lst, wE_dnew, wE_ix, wE_sl, wE_call, wE_bf, wE_mut, wE_comp, onEn_val, onEn_own, onEn_bor, res_val, res_obj, res_slot, frz_val, frz_obj, frz_slot, retR_val, retR_obj, retR_slot, objAt_w, isObj_w, isLst_w, putOb_w, agEn_d, agEn_s, setV_w, setEn_no, setEn_val, setEn_own, isNEn_d, isNEn_o, asB_b, onVal_v, setR_val, setR_obj, setR_slot, setRs_nil, setRs_cons, setVs_nil, setVs_cons, asgT_one, asgT_tup, extS_l, opt_s, wFs_nil, wFs_cons, wOs_nil, wOs_cons, wAs_nil, wAs_cons, wAs_bor, wBo_one, wBo_cons, wPart_nil, wPart_one, wCond_nil, wCond_one, wIt_rng1, wIt_rng2, wIt_seq, onInt_i, onSeq_l, onSeq_t, onTup_t, wSs_nil, wSs_cons, wS_set, wS_setT, wS_par, wS_setI, wS_aug, augEn_val, augEn_own, wS_augI, wS_ex, wS_ret, wS_retN, wS_ifs, wS_fo, wS_brk, wS_pas, ix_t, ix_l, ix_o, sl_t, sl_l, sl_o, o_add, o_sub, o_mul, o_fdiv, o_mod, o_pow, o_addT, o_addDD, o_addDO, o_addOD, o_addOO, neg_i, c_lt, c_le, c_gt, c_ge, c_eqI, c_neI, f_lenT, f_lenL, f_lenO, f_int, f_intB, f_abs, f_max2, f_min2, f_tupT, f_tupL, f_tupO, f_lstT, f_lstL, f_lstO, f_isB, f_isI, f_isS, f_isT, f_sumL, f_sumT, f_maxO, f_minO, f_maxT, f_minT, f_sortO, f_setO, mm_app, mm_rev, mm_pop, si_l, get_0, get_s, resEn_own, resEn_bor, resEn_val, frzEn_own, frzEn_val, retEn_own, retEn_val, objEn_own, objEn_bor, isObEn_own, isObEn_bor, isLsEn_own, isLsEn_bor, putEn_own, putEn_bor, agEn_own, agEn_bor, ag_nil, ag_one, true_and, and_true, vB, List.replicate, List.length_cons, List.length_nil, List.cons_append, List.nil_append, List.set, List.map_cons, List.map_nil, agSlots, putObs, notSlot_val, notSlot_obj, List.all_cons, List.all_nil, Bool.and_self, Bool.and_true, outsFrom, obOf_bor, obOf_own, wipeE, back, isBd, isId, isSd, isTd, noneB, intO]
  cases e : l.getLast? with
  | none =>
    rw [List.getLast?_eq_none_iff] at e
    subst e
    simpa [intO] using h 0 [] (by omega) hm
  | some x =>
    have hl : (l.length : Int) ≠ 0 := by
      cases l with
      | nil => simp at e
      | cons a b => simp; omega
    simp only [List.length_map, hl, decide_false, if_false, Bool.false_eq_true, List.getLast?_map, e, Option.map_some, bodyCt, wE_v, wE_g, wE_k, wE_op, wE_neg, wE_cmp, wE_isN, wE_ch, wE_nt, wE_bo, wE_ife, wE_tup, wE_lst, wE_dnew, wE_ix, wE_sl, wE_call, wE_bf, wE_mut, wE_comp, onEn_val, onEn_own, onEn_bor, res_val, res_obj, res_slot, frz_val, frz_obj, frz_slot, retR_val, retR_obj, retR_slot, objAt_w, isObj_w, isLst_w, putOb_w, agEn_d, agEn_s, setV_w, setEn_no, setEn_val, setEn_own, isNEn_d, isNEn_o, asB_b, onVal_v, setR_val, setR_obj, setR_slot, setRs_nil, setRs_cons, setVs_nil, setVs_cons, asgT_one, asgT_tup, extS_l, opt_s, wFs_nil, wFs_cons, wOs_nil, wOs_cons, wAs_nil, wAs_cons, wAs_bor, wBo_one, wBo_cons, wPart_nil, wPart_one, wCond_nil, wCond_one, wIt_rng1, wIt_rng2, wIt_seq, onInt_i, onSeq_l, onSeq_t, onTup_t, wSs_nil, wSs_cons, wS_set, wS_setT, wS_par, wS_setI, wS_aug, augEn_val, augEn_own, wS_augI, wS_ex, wS_ret, wS_retN, wS_ifs, wS_fo, wS_brk, wS_pas, ix_t, ix_l, ix_o, sl_t, sl_l, sl_o, o_add, o_sub, o_mul, o_fdiv, o_mod, o_pow, o_addT, o_addDD, o_addDO, o_addOD, o_addOO, neg_i, c_lt, c_le, c_gt, c_ge, c_eqI, c_neI, f_lenT, f_lenL, f_lenO, f_int, f_intB, f_abs, f_max2, f_min2, f_tupT, f_tupL, f_tupO, f_lstT, f_lstL, f_lstO, f_isB, f_isI, f_isS, f_isT, f_sumL, f_sumT, f_maxO, f_minO, f_maxT, f_minT, f_sortO, f_setO, mm_app, mm_rev, mm_pop, si_l, get_0, get_s, resEn_own, resEn_bor, resEn_val, frzEn_own, frzEn_val, retEn_own, retEn_val, objEn_own, objEn_bor, isObEn_own, isObEn_bor, isLsEn_own, isLsEn_bor, putEn_own, putEn_bor, agEn_own, agEn_bor, ag_nil, ag_one, true_and, and_true, vB, List.replicate, List.length_cons, List.length_nil, List.cons_append, List.nil_append, List.set, List.map_cons, List.map_nil, agSlots, putObs, notSlot_val, notSlot_obj, List.all_cons, List.all_nil, Bool.and_self, Bool.and_true, outsFrom, obOf_bor, obOf_own, wipeE, back, isBd, isId, isSd, isTd, noneB]
    refine ⟨hm, ?_⟩
    rw [← List.map_dropLast]
    exact h _ _ (Int.emod_nonneg _ (by omega)) (Int.emod_lt_of_pos _ hm)
def irDraws : ISs := (.cons (.set 2 (.comp [("cell", 3)] (.one 3) .seq (.cons (.v 0) .nil) .nil (.bf .int (.cons (.v 3) .nil))))
  (.cons (.ifs (.cmp .eq (.bf .len (.cons (.v 2) .nil)) (.k (.int 0))) (.cons (.ex (.mut .append 2 (.cons (.k (.int 0)) .nil)))
  .nil) .nil)
  (.cons (.set 4 (.bf .list (.cons (.v 2) .nil)))
  (.cons (.set 5 (.lst .nil))
  (.cons (.fo (.one 6) .rng1 (.cons (.v 1) .nil) (.cons (.set 7 (.op .mod (.v 6) (.bf .len (.cons (.v 2) .nil))))
  (.cons (.ifs (.bo true (.cons (.cmp .ge (.ix (.v 2) (.v 7)) (.op .pow (.k (.int 10)) (.k (.int 18)))) (.cons (.cmp .gt (.ix (.v 4) (.v 7)) (.k (.int 0))) .nil))) (.cons (.ex (.mut .append 5 (.cons (.op .mod (.bf .int (.cons (.ix (.v 4) (.v 7)) .nil)) (.k (.int 1000))) .nil)))
  (.cons (.setI 4 (.v 7) (.op .fdiv (.ix (.v 4) (.v 7)) (.k (.int 1000))))
  .nil)) (.cons (.set 8 (.op .mod (.bf .int (.cons (.op .add (.op .add (.op .mul (.ix (.v 2) (.v 7)) (.k (.int 48271))) (.op .mul (.v 6) (.k (.int 69621)))) (.k (.int 11))) .nil)) (.k (.int 2147483647))))
  (.cons (.ex (.mut .append 5 (.cons (.op .mod (.bf .int (.cons (.op .add (.op .add (.op .mul (.v 8) (.v 8)) (.op .mul (.k (.int 3)) (.v 8))) (.v 6)) .nil)) (.k (.int 1000003))) .nil)))
  .nil)))
  .nil)))
  (.cons (.ex (.mut .reverse 5 .nil))
  (.cons (.ret (.v 5))
  .nil)))))))
theorem mul_small {i j : Int} (h1 : -(2 ^ 64) < j) (h2 : j < 2 ^ 64) : MulOk i j := .inl (.inr ⟨h1, h2⟩)
theorem mul_smallL {i j : Int} (h1 : -(2 ^ 64) < i) (h2 : i < 2 ^ 64) : MulOk i j := .inl (.inl ⟨h1, h2⟩)
theorem app_int (l : List Int) (x : Int) : l.map PyData.int ++ [.int x] = (l ++ [x]).map PyData.int := by simp
/-- the loop's turns -/
theorem draws_loop {ns cells : List Int} {m : Int} {S : SK} (hc : 0 < cells.length)
    (fin : ∀ e3 rest drawn e6 e7 e8, S.nx [.val (.list (ns.map .int)), .val (.int m), .own (.lst (cells.map .int)), e3, .own (.lst (List.map PyData.int rest)), .own (.lst (List.map PyData.int drawn)), e6, e7, e8]) :
    ∀ (e3 : En) (as : List Nat) (rest drawn : List Int) (e6 e7 e8 : En), nb e3 → nb e6 → nb e7 → nb e8 → rest.length = cells.length → drawn.length + as.length ≤ 1000 →
    wFor (.one 6) (wSs Γ (.cons (.set 7 (.op .mod (.v 6) (.bf .len (.cons (.v 2) .nil))))
  (.cons (.ifs (.bo true (.cons (.cmp .ge (.ix (.v 2) (.v 7)) (.op .pow (.k (.int 10)) (.k (.int 18)))) (.cons (.cmp .gt (.ix (.v 4) (.v 7)) (.k (.int 0))) .nil))) (.cons (.ex (.mut .append 5 (.cons (.op .mod (.bf .int (.cons (.ix (.v 4) (.v 7)) .nil)) (.k (.int 1000))) .nil)))
  (.cons (.setI 4 (.v 7) (.op .fdiv (.ix (.v 4) (.v 7)) (.k (.int 1000))))
  .nil)) (.cons (.set 8 (.op .mod (.bf .int (.cons (.op .add (.op .add (.op .mul (.ix (.v 2) (.v 7)) (.k (.int 48271))) (.op .mul (.v 6) (.k (.int 69621)))) (.k (.int 11))) .nil)) (.k (.int 2147483647))))
  (.cons (.ex (.mut .append 5 (.cons (.op .mod (.bf .int (.cons (.op .add (.op .add (.op .mul (.v 8) (.v 8)) (.op .mul (.k (.int 3)) (.v 8))) (.v 6)) .nil)) (.k (.int 1000003))) .nil)))
  .nil)))
  .nil))) (as.map fun i => .int (0 + (i : Nat))) [.val (.list (ns.map .int)), .val (.int m), .own (.lst (cells.map .int)), e3, .own (.lst (rest.map .int)), .own (.lst (drawn.map .int)), e6, e7, e8] S := by
  intro e3 as rest drawn e6 e7 e8 h3 h6 h7 h8 hr hd
  refine wFor_map (fun i : Nat => .int (0 + (i : Nat))) (fun as ρ => ∃ e6 e7 e8 rest drawn, ρ = [.val (.list (ns.map .int)), .val (.int m), .own (.lst (cells.map .int)), e3, .own (.lst (List.map PyData.int rest)), .own (.lst (List.map PyData.int drawn)), e6, e7, e8] ∧
    nb e6 ∧ nb e7 ∧ nb e8 ∧ rest.length = cells.length ∧ drawn.length + as.length ≤ 1000) ?_ ?_ as _ ⟨e6, e7, e8, rest, drawn, rfl, h6, h7, h8, hr, hd⟩
  · rintro a r ρ k ⟨e6, e7, e8, rest, drawn, rfl, h6, h7, h8, hr, hd⟩ hk
    have a0 : (0 : Int) ≤ (0 + (a : Nat) : Int) % (cells.length : Nat) := Int.emod_nonneg _ (by omega)
    have a1 : (0 + (a : Nat) : Int) % (cells.length : Nat) < cells.length := Int.emod_lt_of_pos _ (by omega)
    have a2 : (0 + (a : Nat) : Int) % (cells.length : Nat) < rest.length := by rw [hr]; exact a1
    rw [List.length_cons] at hd
    simp only [bodyCt, wE_v, wE_g, wE_k, wE_op, wE_neg, wE_cmp, wE_isN, wE_ch, wE_nt, wE_bo, wE_ife, wE_tup, wE_lst, wE_dnew, wE_ix, wE_sl, wE_call, wE_bf, wE_mut, wE_comp, onEn_val, onEn_own, onEn_bor, res_val, res_obj, res_slot, frz_val, frz_obj, frz_slot, retR_val, retR_obj, retR_slot, objAt_w, isObj_w, isLst_w, putOb_w, agEn_d, agEn_s, setV_w, setEn_no, setEn_val, setEn_own, isNEn_d, isNEn_o, asB_b, onVal_v, setR_val, setR_obj, setR_slot, setRs_nil, setRs_cons, setVs_nil, setVs_cons, asgT_one, asgT_tup, extS_l, opt_s, wFs_nil, wFs_cons, wOs_nil, wOs_cons, wAs_nil, wAs_cons, wAs_bor, wBo_one, wBo_cons, wPart_nil, wPart_one, wCond_nil, wCond_one, wIt_rng1, wIt_rng2, wIt_seq, onInt_i, onSeq_l, onSeq_t, onTup_t, wSs_nil, wSs_cons, wS_set, wS_setT, wS_par, wS_setI, wS_aug, augEn_val, augEn_own, wS_augI, wS_ex, wS_ret, wS_retN, wS_ifs, wS_fo, wS_brk, wS_pas, ix_t, ix_l, ix_o, sl_t, sl_l, sl_o, o_add, o_sub, o_mul, o_fdiv, o_mod, o_pow, o_addT, o_addDD, o_addDO, o_addOD, o_addOO, neg_i, c_lt, c_le, c_gt, c_ge, c_eqI, c_neI, f_lenT, f_lenL, f_lenO, f_int, f_intB, f_abs, f_max2, f_min2, f_tupT, f_tupL, f_tupO, f_lstT, f_lstL, f_lstO, f_isB, f_isI, f_isS, f_isT, f_sumL, f_sumT, f_maxO, f_minO, f_maxT, f_minT, f_sortO, f_setO, mm_app, mm_rev, mm_pop, si_l, get_0, get_s, resEn_own, resEn_bor, resEn_val, frzEn_own, frzEn_val, retEn_own, retEn_val, objEn_own, objEn_bor, isObEn_own, isObEn_bor, isLsEn_own, isLsEn_bor, putEn_own, putEn_bor, agEn_own, agEn_bor, ag_nil, ag_one, true_and, and_true, vB, List.replicate, List.length_cons, List.length_nil, List.cons_append, List.nil_append, List.set, List.map_cons, List.map_nil, agSlots, putObs, notSlot_val, notSlot_obj, List.all_cons, List.all_nil, Bool.and_self, Bool.and_true, outsFrom, obOf_bor, obOf_own, wipeE, back, isBd, isId, isSd, isTd, noneB, setEn_nb h6, setEn_nb h7, setEn_nb h8, List.length_map, atI_int a0 a1, atI_int a0 a2]
    refine ⟨by omega, ⟨by decide, by decide, by decide⟩, ?_⟩
    have go : ∀ (v : Int) (rest' : List Int) (e8' : En), nb e8' → rest'.length = cells.length → k [.val (.list (ns.map .int)), .val (.int m), .own (.lst (cells.map .int)), e3, .own (.lst (List.map PyData.int rest')), .own (.lst (drawn.map .int ++ [.int v])), .val (.int (0 + (a : Nat))), .val (.int ((0 + (a : Nat) : Int) % (cells.length : Nat))), e8'] := fun v rest' e8' h8' hr' => by
      rw [app_int]
      exact hk _ ⟨_, _, e8', rest', _, rfl, trivial, trivial, h8', hr', by rw [List.length_append, List.length_singleton]; omega⟩
    have els : wSs Γ (.cons (.set 8 (.op .mod (.bf .int (.cons (.op .add (.op .add (.op .mul (.ix (.v 2) (.v 7)) (.k (.int 48271))) (.op .mul (.v 6) (.k (.int 69621)))) (.k (.int 11))) .nil)) (.k (.int 2147483647))))
  (.cons (.ex (.mut .append 5 (.cons (.op .mod (.bf .int (.cons (.op .add (.op .add (.op .mul (.v 8) (.v 8)) (.op .mul (.k (.int 3)) (.v 8))) (.v 6)) .nil)) (.k (.int 1000003))) .nil)))
  .nil)) [.val (.list (ns.map .int)), .val (.int m), .own (.lst (cells.map .int)), e3, .own (.lst (List.map PyData.int rest)), .own (.lst (drawn.map .int)), .val (.int (0 + (a : Nat))), .val (.int ((0 + (a : Nat) : Int) % (cells.length : Nat))), e8] { nx := k, rt := S.rt, bk := S.nx } := by
      simp only [bodyCt, wE_v, wE_g, wE_k, wE_op, wE_neg, wE_cmp, wE_isN, wE_ch, wE_nt, wE_bo, wE_ife, wE_tup, wE_lst, wE_dnew, wE_ix, wE_sl, wE_call, wE_bf, wE_mut, wE_comp, onEn_val, onEn_own, onEn_bor, res_val, res_obj, res_slot, frz_val, frz_obj, frz_slot, retR_val, retR_obj, retR_slot, objAt_w, isObj_w, isLst_w, putOb_w, agEn_d, agEn_s, setV_w, setEn_no, setEn_val, setEn_own, isNEn_d, isNEn_o, asB_b, onVal_v, setR_val, setR_obj, setR_slot, setRs_nil, setRs_cons, setVs_nil, setVs_cons, asgT_one, asgT_tup, extS_l, opt_s, wFs_nil, wFs_cons, wOs_nil, wOs_cons, wAs_nil, wAs_cons, wAs_bor, wBo_one, wBo_cons, wPart_nil, wPart_one, wCond_nil, wCond_one, wIt_rng1, wIt_rng2, wIt_seq, onInt_i, onSeq_l, onSeq_t, onTup_t, wSs_nil, wSs_cons, wS_set, wS_setT, wS_par, wS_setI, wS_aug, augEn_val, augEn_own, wS_augI, wS_ex, wS_ret, wS_retN, wS_ifs, wS_fo, wS_brk, wS_pas, ix_t, ix_l, ix_o, sl_t, sl_l, sl_o, o_add, o_sub, o_mul, o_fdiv, o_mod, o_pow, o_addT, o_addDD, o_addDO, o_addOD, o_addOO, neg_i, c_lt, c_le, c_gt, c_ge, c_eqI, c_neI, f_lenT, f_lenL, f_lenO, f_int, f_intB, f_abs, f_max2, f_min2, f_tupT, f_tupL, f_tupO, f_lstT, f_lstL, f_lstO, f_isB, f_isI, f_isS, f_isT, f_sumL, f_sumT, f_maxO, f_minO, f_maxT, f_minT, f_sortO, f_setO, mm_app, mm_rev, mm_pop, si_l, get_0, get_s, resEn_own, resEn_bor, resEn_val, frzEn_own, frzEn_val, retEn_own, retEn_val, objEn_own, objEn_bor, isObEn_own, isObEn_bor, isLsEn_own, isLsEn_bor, putEn_own, putEn_bor, agEn_own, agEn_bor, ag_nil, ag_one, true_and, and_true, vB, List.replicate, List.length_cons, List.length_nil, List.cons_append, List.nil_append, List.set, List.map_cons, List.map_nil, agSlots, putObs, notSlot_val, notSlot_obj, List.all_cons, List.all_nil, Bool.and_self, Bool.and_true, outsFrom, obOf_bor, obOf_own, wipeE, back, isBd, isId, isSd, isTd, noneB, setEn_nb h8, List.length_map, atI_int a0 a1]
      generalize hy : (List.getD cells ((0 + (a : Nat) : Int) % (cells.length : Nat)).toNat 0 * 48271 + (0 + (a : Nat)) * 69621 + 11) % 2147483647 = y
      have y0 : 0 ≤ y := by rw [← hy]; exact Int.emod_nonneg _ (by decide)
      have y1 : y < 2147483647 := by rw [← hy]; exact Int.emod_lt_of_pos _ (by decide)
      refine ⟨mul_small (by decide) (by decide), mul_small (by decide) (by decide), by decide, mul_small (by omega) (by omega), mul_small (by omega) (by omega), by decide, by omega, ?_⟩
      exact go _ _ _ trivial hr
    simp only [bodyCt, wE_v, wE_g, wE_k, wE_op, wE_neg, wE_cmp, wE_isN, wE_ch, wE_nt, wE_bo, wE_ife, wE_tup, wE_lst, wE_dnew, wE_ix, wE_sl, wE_call, wE_bf, wE_mut, wE_comp, onEn_val, onEn_own, onEn_bor, res_val, res_obj, res_slot, frz_val, frz_obj, frz_slot, retR_val, retR_obj, retR_slot, objAt_w, isObj_w, isLst_w, putOb_w, agEn_d, agEn_s, setV_w, setEn_no, setEn_val, setEn_own, isNEn_d, isNEn_o, asB_b, onVal_v, setR_val, setR_obj, setR_slot, setRs_nil, setRs_cons, setVs_nil, setVs_cons, asgT_one, asgT_tup, extS_l, opt_s, wFs_nil, wFs_cons, wOs_nil, wOs_cons, wAs_nil, wAs_cons, wAs_bor, wBo_one, wBo_cons, wPart_nil, wPart_one, wCond_nil, wCond_one, wIt_rng1, wIt_rng2, wIt_seq, onInt_i, onSeq_l, onSeq_t, onTup_t, wSs_nil, wSs_cons, wS_set, wS_setT, wS_par, wS_setI, wS_aug, augEn_val, augEn_own, wS_augI, wS_ex, wS_ret, wS_retN, wS_ifs, wS_fo, wS_brk, wS_pas, ix_t, ix_l, ix_o, sl_t, sl_l, sl_o, o_add, o_sub, o_mul, o_fdiv, o_mod, o_pow, o_addT, o_addDD, o_addDO, o_addOD, o_addOO, neg_i, c_lt, c_le, c_gt, c_ge, c_eqI, c_neI, f_lenT, f_lenL, f_lenO, f_int, f_intB, f_abs, f_max2, f_min2, f_tupT, f_tupL, f_tupO, f_lstT, f_lstL, f_lstO, f_isB, f_isI, f_isS, f_isT, f_sumL, f_sumT, f_maxO, f_minO, f_maxT, f_minT, f_sortO, f_setO, mm_app, mm_rev, mm_pop, si_l, get_0, get_s, resEn_own, resEn_bor, resEn_val, frzEn_own, frzEn_val, retEn_own, retEn_val, objEn_own, objEn_bor, isObEn_own, isObEn_bor, isLsEn_own, isLsEn_bor, putEn_own, putEn_bor, agEn_own, agEn_bor, ag_nil, ag_one, true_and, and_true, vB, List.replicate, List.length_cons, List.length_nil, List.cons_append, List.nil_append, List.set, List.map_cons, List.map_nil, agSlots, putObs, notSlot_val, notSlot_obj, List.all_cons, List.all_nil, Bool.and_self, Bool.and_true, outsFrom, obOf_bor, obOf_own, wipeE, back, isBd, isId, isSd, isTd, noneB, setEn_nb h8, List.length_map, atI_int a0 a1] at els
    split
    · split
      · refine ⟨by decide, by omega, ⟨by decide, by decide⟩, ?_⟩
        rw [ixN_nn a0 a2]
        simp only [bodyCt, wE_v, wE_g, wE_k, wE_op, wE_neg, wE_cmp, wE_isN, wE_ch, wE_nt, wE_bo, wE_ife, wE_tup, wE_lst, wE_dnew, wE_ix, wE_sl, wE_call, wE_bf, wE_mut, wE_comp, onEn_val, onEn_own, onEn_bor, res_val, res_obj, res_slot, frz_val, frz_obj, frz_slot, retR_val, retR_obj, retR_slot, objAt_w, isObj_w, isLst_w, putOb_w, agEn_d, agEn_s, setV_w, setEn_no, setEn_val, setEn_own, isNEn_d, isNEn_o, asB_b, onVal_v, setR_val, setR_obj, setR_slot, setRs_nil, setRs_cons, setVs_nil, setVs_cons, asgT_one, asgT_tup, extS_l, opt_s, wFs_nil, wFs_cons, wOs_nil, wOs_cons, wAs_nil, wAs_cons, wAs_bor, wBo_one, wBo_cons, wPart_nil, wPart_one, wCond_nil, wCond_one, wIt_rng1, wIt_rng2, wIt_seq, onInt_i, onSeq_l, onSeq_t, onTup_t, wSs_nil, wSs_cons, wS_set, wS_setT, wS_par, wS_setI, wS_aug, augEn_val, augEn_own, wS_augI, wS_ex, wS_ret, wS_retN, wS_ifs, wS_fo, wS_brk, wS_pas, ix_t, ix_l, ix_o, sl_t, sl_l, sl_o, o_add, o_sub, o_mul, o_fdiv, o_mod, o_pow, o_addT, o_addDD, o_addDO, o_addOD, o_addOO, neg_i, c_lt, c_le, c_gt, c_ge, c_eqI, c_neI, f_lenT, f_lenL, f_lenO, f_int, f_intB, f_abs, f_max2, f_min2, f_tupT, f_tupL, f_tupO, f_lstT, f_lstL, f_lstO, f_isB, f_isI, f_isS, f_isT, f_sumL, f_sumT, f_maxO, f_minO, f_maxT, f_minT, f_sortO, f_setO, mm_app, mm_rev, mm_pop, si_l, get_0, get_s, resEn_own, resEn_bor, resEn_val, frzEn_own, frzEn_val, retEn_own, retEn_val, objEn_own, objEn_bor, isObEn_own, isObEn_bor, isLsEn_own, isLsEn_bor, putEn_own, putEn_bor, agEn_own, agEn_bor, ag_nil, ag_one, true_and, and_true, vB, List.replicate, List.length_cons, List.length_nil, List.cons_append, List.nil_append, List.set, List.map_cons, List.map_nil, agSlots, putObs, notSlot_val, notSlot_obj, List.all_cons, List.all_nil, Bool.and_self, Bool.and_true, outsFrom, obOf_bor, obOf_own, wipeE, back, isBd, isId, isSd, isTd, noneB]
        rw [← List.map_set]
        exact go _ _ _ h8 (by rw [List.length_set]; exact hr)
      · exact els
    · exact els
  · rintro ρ ⟨e6, e7, e8, rest, drawn, rfl, _⟩
    exact fin _ _ _ _ _ _
theorem fm_some {α β : Type} (g : α → β) (l : List α) : l.filterMap (fun a => some (g a)) = l.map g := by
  induction l with
  | nil => rfl
  | cons a l ih => simp [ih]
theorem s_draws {es : List En} {K : Rs → List Ob → Prop} (h : ctDraws es K) : bodyCt Γ 9 irDraws es K := by
  obtain ⟨ns, m, rfl, ⟨m0, m1⟩, h⟩ := h
  unfold irDraws
  simp only [bodyCt, wE_v, wE_g, wE_k, wE_op, wE_neg, wE_cmp, wE_isN, wE_ch, wE_nt, wE_bo, wE_ife, wE_tup, wE_lst, wE_dnew, wE_ix, wE_sl, wE_call, wE_bf, wE_mut, wE_comp, onEn_val, onEn_own, onEn_bor, res_val, res_obj, res_slot, frz_val, frz_obj, frz_slot, retR_val, retR_obj, retR_slot, objAt_w, isObj_w, isLst_w, putOb_w, agEn_d, agEn_s, setV_w, setEn_no, setEn_val, setEn_own, isNEn_d, isNEn_o, asB_b, onVal_v, setR_val, setR_obj, setR_slot, setRs_nil, setRs_cons, setVs_nil, setVs_cons, asgT_one, asgT_tup, extS_l, opt_s, wFs_nil, wFs_cons, wOs_nil, wOs_cons, wAs_nil, wAs_cons, wAs_bor, wBo_one, wBo_cons, wPart_nil, wPart_one, wCond_nil, wCond_one, wIt_rng1, wIt_rng2, wIt_seq, onInt_i, onSeq_l, onSeq_t, onTup_t, wSs_nil, wSs_cons, wS_set, wS_setT, wS_par, wS_setI, wS_aug, augEn_val, augEn_own, wS_augI, wS_ex, wS_ret, wS_retN, wS_ifs, wS_fo, wS_brk, wS_pas, ix_t, ix_l, ix_o, sl_t, sl_l, sl_o, o_add, o_sub, o_mul, o_fdiv, o_mod, o_pow, o_addT, o_addDD, o_addDO, o_addOD, o_addOO, neg_i, c_lt, c_le, c_gt, c_ge, c_eqI, c_neI, f_lenT, f_lenL, f_lenO, f_int, f_intB, f_abs, f_max2, f_min2, f_tupT, f_tupL, f_tupO, f_lstT, f_lstL, f_lstO, f_isB, f_isI, f_isS, f_isT, f_sumL, f_sumT, f_maxO, f_minO, f_maxT, f_minT, f_sortO, f_setO, mm_app, mm_rev, mm_pop, si_l, get_0, get_s, resEn_own, resEn_bor, resEn_val, frzEn_own, frzEn_val, retEn_own, retEn_val, objEn_own, objEn_bor, isObEn_own, isObEn_bor, isLsEn_own, isLsEn_bor, putEn_own, putEn_bor, agEn_own, agEn_bor, ag_nil, ag_one, true_and, and_true, vB, List.replicate, List.length_cons, List.length_nil, List.cons_append, List.nil_append, List.set, List.map_cons, List.map_nil, agSlots, putObs, notSlot_val, notSlot_obj, List.all_cons, List.all_nil, Bool.and_self, Bool.and_true, outsFrom, obOf_bor, obOf_own, wipeE, back, isBd, isId, isSd, isTd, noneB]
  refine ⟨by simp [noObj, Ev.get], ?_⟩
  refine wComp_pure PyData.int (fun i => some (.int i)) ns _ (fun i _ kt kf h1 h2 => ?_) ?_
  · simp only [bodyCt, wE_v, wE_g, wE_k, wE_op, wE_neg, wE_cmp, wE_isN, wE_ch, wE_nt, wE_bo, wE_ife, wE_tup, wE_lst, wE_dnew, wE_ix, wE_sl, wE_call, wE_bf, wE_mut, wE_comp, onEn_val, onEn_own, onEn_bor, res_val, res_obj, res_slot, frz_val, frz_obj, frz_slot, retR_val, retR_obj, retR_slot, objAt_w, isObj_w, isLst_w, putOb_w, agEn_d, agEn_s, setV_w, setEn_no, setEn_val, setEn_own, isNEn_d, isNEn_o, asB_b, onVal_v, setR_val, setR_obj, setR_slot, setRs_nil, setRs_cons, setVs_nil, setVs_cons, asgT_one, asgT_tup, extS_l, opt_s, wFs_nil, wFs_cons, wOs_nil, wOs_cons, wAs_nil, wAs_cons, wAs_bor, wBo_one, wBo_cons, wPart_nil, wPart_one, wCond_nil, wCond_one, wIt_rng1, wIt_rng2, wIt_seq, onInt_i, onSeq_l, onSeq_t, onTup_t, wSs_nil, wSs_cons, wS_set, wS_setT, wS_par, wS_setI, wS_aug, augEn_val, augEn_own, wS_augI, wS_ex, wS_ret, wS_retN, wS_ifs, wS_fo, wS_brk, wS_pas, ix_t, ix_l, ix_o, sl_t, sl_l, sl_o, o_add, o_sub, o_mul, o_fdiv, o_mod, o_pow, o_addT, o_addDD, o_addDO, o_addOD, o_addOO, neg_i, c_lt, c_le, c_gt, c_ge, c_eqI, c_neI, f_lenT, f_lenL, f_lenO, f_int, f_intB, f_abs, f_max2, f_min2, f_tupT, f_tupL, f_tupO, f_lstT, f_lstL, f_lstO, f_isB, f_isI, f_isS, f_isT, f_sumL, f_sumT, f_maxO, f_minO, f_maxT, f_minT, f_sortO, f_setO, mm_app, mm_rev, mm_pop, si_l, get_0, get_s, resEn_own, resEn_bor, resEn_val, frzEn_own, frzEn_val, retEn_own, retEn_val, objEn_own, objEn_bor, isObEn_own, isObEn_bor, isLsEn_own, isLsEn_bor, putEn_own, putEn_bor, agEn_own, agEn_bor, ag_nil, ag_one, true_and, and_true, vB, List.replicate, List.length_cons, List.length_nil, List.cons_append, List.nil_append, List.set, List.map_cons, List.map_nil, agSlots, putObs, notSlot_val, notSlot_obj, List.all_cons, List.all_nil, Bool.and_self, Bool.and_true, outsFrom, obOf_bor, obOf_own, wipeE, back, isBd, isId, isSd, isTd, noneB, if_true]
    exact h1 _ _ rfl rfl
  · rw [fm_some]
    simp only [bodyCt, wE_v, wE_g, wE_k, wE_op, wE_neg, wE_cmp, wE_isN, wE_ch, wE_nt, wE_bo, wE_ife, wE_tup, wE_lst, wE_dnew, wE_ix, wE_sl, wE_call, wE_bf, wE_mut, wE_comp, onEn_val, onEn_own, onEn_bor, res_val, res_obj, res_slot, frz_val, frz_obj, frz_slot, retR_val, retR_obj, retR_slot, objAt_w, isObj_w, isLst_w, putOb_w, agEn_d, agEn_s, setV_w, setEn_no, setEn_val, setEn_own, isNEn_d, isNEn_o, asB_b, onVal_v, setR_val, setR_obj, setR_slot, setRs_nil, setRs_cons, setVs_nil, setVs_cons, asgT_one, asgT_tup, extS_l, opt_s, wFs_nil, wFs_cons, wOs_nil, wOs_cons, wAs_nil, wAs_cons, wAs_bor, wBo_one, wBo_cons, wPart_nil, wPart_one, wCond_nil, wCond_one, wIt_rng1, wIt_rng2, wIt_seq, onInt_i, onSeq_l, onSeq_t, onTup_t, wSs_nil, wSs_cons, wS_set, wS_setT, wS_par, wS_setI, wS_aug, augEn_val, augEn_own, wS_augI, wS_ex, wS_ret, wS_retN, wS_ifs, wS_fo, wS_brk, wS_pas, ix_t, ix_l, ix_o, sl_t, sl_l, sl_o, o_add, o_sub, o_mul, o_fdiv, o_mod, o_pow, o_addT, o_addDD, o_addDO, o_addOD, o_addOO, neg_i, c_lt, c_le, c_gt, c_ge, c_eqI, c_neI, f_lenT, f_lenL, f_lenO, f_int, f_intB, f_abs, f_max2, f_min2, f_tupT, f_tupL, f_tupO, f_lstT, f_lstL, f_lstO, f_isB, f_isI, f_isS, f_isT, f_sumL, f_sumT, f_maxO, f_minO, f_maxT, f_minT, f_sortO, f_setO, mm_app, mm_rev, mm_pop, si_l, get_0, get_s, resEn_own, resEn_bor, resEn_val, frzEn_own, frzEn_val, retEn_own, retEn_val, objEn_own, objEn_bor, isObEn_own, isObEn_bor, isLsEn_own, isLsEn_bor, putEn_own, putEn_bor, agEn_own, agEn_bor, ag_nil, ag_one, true_and, and_true, vB, List.replicate, List.length_cons, List.length_nil, List.cons_append, List.nil_append, List.set, List.map_cons, List.map_nil, agSlots, putObs, notSlot_val, notSlot_obj, List.all_cons, List.all_nil, Bool.and_self, Bool.and_true, outsFrom, obOf_bor, obOf_own, wipeE, back, isBd, isId, isSd, isTd, noneB, List.length_map]
    have sm : Small m := ⟨by omega, by omega⟩
    have hr : rngL 0 m = (List.range (m - 0).toNat).map fun i : Nat => PyData.int (0 + (i : Nat)) := rfl
    have hd : ([] : List Int).length + (List.range (m - 0).toNat).length ≤ 1000 := by
      rw [List.length_range, List.length_nil]; omega
    by_cases c : ns = []
    · subst c
      simp only [bodyCt, wE_v, wE_g, wE_k, wE_op, wE_neg, wE_cmp, wE_isN, wE_ch, wE_nt, wE_bo, wE_ife, wE_tup, wE_lst, wE_dnew, wE_ix, wE_sl, wE_call, wE_bf, wE_mut, wE_comp, onEn_val, onEn_own, onEn_bor, res_val, res_obj, res_slot, frz_val, frz_obj, frz_slot, retR_val, retR_obj, retR_slot, objAt_w, isObj_w, isLst_w, putOb_w, agEn_d, agEn_s, setV_w, setEn_no, setEn_val, setEn_own, isNEn_d, isNEn_o, asB_b, onVal_v, setR_val, setR_obj, setR_slot, setRs_nil, setRs_cons, setVs_nil, setVs_cons, asgT_one, asgT_tup, extS_l, opt_s, wFs_nil, wFs_cons, wOs_nil, wOs_cons, wAs_nil, wAs_cons, wAs_bor, wBo_one, wBo_cons, wPart_nil, wPart_one, wCond_nil, wCond_one, wIt_rng1, wIt_rng2, wIt_seq, onInt_i, onSeq_l, onSeq_t, onTup_t, wSs_nil, wSs_cons, wS_set, wS_setT, wS_par, wS_setI, wS_aug, augEn_val, augEn_own, wS_augI, wS_ex, wS_ret, wS_retN, wS_ifs, wS_fo, wS_brk, wS_pas, ix_t, ix_l, ix_o, sl_t, sl_l, sl_o, o_add, o_sub, o_mul, o_fdiv, o_mod, o_pow, o_addT, o_addDD, o_addDO, o_addOD, o_addOO, neg_i, c_lt, c_le, c_gt, c_ge, c_eqI, c_neI, f_lenT, f_lenL, f_lenO, f_int, f_intB, f_abs, f_max2, f_min2, f_tupT, f_tupL, f_tupO, f_lstT, f_lstL, f_lstO, f_isB, f_isI, f_isS, f_isT, f_sumL, f_sumT, f_maxO, f_minO, f_maxT, f_minT, f_sortO, f_setO, mm_app, mm_rev, mm_pop, si_l, get_0, get_s, resEn_own, resEn_bor, resEn_val, frzEn_own, frzEn_val, retEn_own, retEn_val, objEn_own, objEn_bor, isObEn_own, isObEn_bor, isLsEn_own, isLsEn_bor, putEn_own, putEn_bor, agEn_own, agEn_bor, ag_nil, ag_one, true_and, and_true, vB, List.replicate, List.length_cons, List.length_nil, List.cons_append, List.nil_append, List.set, List.map_cons, List.map_nil, agSlots, putObs, notSlot_val, notSlot_obj, List.all_cons, List.all_nil, Bool.and_self, Bool.and_true, outsFrom, obOf_bor, obOf_own, wipeE, back, isBd, isId, isSd, isTd, noneB, Int.ofNat_zero, decide_true, if_true]
      refine ⟨by decide, by decide, ⟨sm, by omega⟩, ?_⟩
      rw [hr]
      refine draws_loop (ns := []) (cells := [0]) (m := m) (by decide) (fun e3 rest drawn e6 e7 e8 => ?_) .no _ [0] [] .no .no .no trivial trivial trivial trivial rfl hd
      simp only [bodyCt, wE_v, wE_g, wE_k, wE_op, wE_neg, wE_cmp, wE_isN, wE_ch, wE_nt, wE_bo, wE_ife, wE_tup, wE_lst, wE_dnew, wE_ix, wE_sl, wE_call, wE_bf, wE_mut, wE_comp, onEn_val, onEn_own, onEn_bor, res_val, res_obj, res_slot, frz_val, frz_obj, frz_slot, retR_val, retR_obj, retR_slot, objAt_w, isObj_w, isLst_w, putOb_w, agEn_d, agEn_s, setV_w, setEn_no, setEn_val, setEn_own, isNEn_d, isNEn_o, asB_b, onVal_v, setR_val, setR_obj, setR_slot, setRs_nil, setRs_cons, setVs_nil, setVs_cons, asgT_one, asgT_tup, extS_l, opt_s, wFs_nil, wFs_cons, wOs_nil, wOs_cons, wAs_nil, wAs_cons, wAs_bor, wBo_one, wBo_cons, wPart_nil, wPart_one, wCond_nil, wCond_one, wIt_rng1, wIt_rng2, wIt_seq, onInt_i, onSeq_l, onSeq_t, onTup_t, wSs_nil, wSs_cons, wS_set, wS_setT, wS_par, wS_setI, wS_aug, augEn_val, augEn_own, wS_augI, wS_ex, wS_ret, wS_retN, wS_ifs, wS_fo, wS_brk, wS_pas, ix_t, ix_l, ix_o, sl_t, sl_l, sl_o, o_add, o_sub, o_mul, o_fdiv, o_mod, o_pow, o_addT, o_addDD, o_addDO, o_addOD, o_addOO, neg_i, c_lt, c_le, c_gt, c_ge, c_eqI, c_neI, f_lenT, f_lenL, f_lenO, f_int, f_intB, f_abs, f_max2, f_min2, f_tupT, f_tupL, f_tupO, f_lstT, f_lstL, f_lstO, f_isB, f_isI, f_isS, f_isT, f_sumL, f_sumT, f_maxO, f_minO, f_maxT, f_minT, f_sortO, f_setO, mm_app, mm_rev, mm_pop, si_l, get_0, get_s, resEn_own, resEn_bor, resEn_val, frzEn_own, frzEn_val, retEn_own, retEn_val, objEn_own, objEn_bor, isObEn_own, isObEn_bor, isLsEn_own, isLsEn_bor, putEn_own, putEn_bor, agEn_own, agEn_bor, ag_nil, ag_one, true_and, and_true, vB, List.replicate, List.length_cons, List.length_nil, List.cons_append, List.nil_append, List.set, List.map_cons, List.map_nil, agSlots, putObs, notSlot_val, notSlot_obj, List.all_cons, List.all_nil, Bool.and_self, Bool.and_true, outsFrom, obOf_bor, obOf_own, wipeE, back, isBd, isId, isSd, isTd, noneB]
      rw [← List.map_reverse]
      exact h _
    · have c2 : ¬ ((ns.length : Nat) : Int) = 0 := by
        cases ns with
        | nil => exact absurd rfl c
        | cons a b => simp; omega
      simp only [bodyCt, wE_v, wE_g, wE_k, wE_op, wE_neg, wE_cmp, wE_isN, wE_ch, wE_nt, wE_bo, wE_ife, wE_tup, wE_lst, wE_dnew, wE_ix, wE_sl, wE_call, wE_bf, wE_mut, wE_comp, onEn_val, onEn_own, onEn_bor, res_val, res_obj, res_slot, frz_val, frz_obj, frz_slot, retR_val, retR_obj, retR_slot, objAt_w, isObj_w, isLst_w, putOb_w, agEn_d, agEn_s, setV_w, setEn_no, setEn_val, setEn_own, isNEn_d, isNEn_o, asB_b, onVal_v, setR_val, setR_obj, setR_slot, setRs_nil, setRs_cons, setVs_nil, setVs_cons, asgT_one, asgT_tup, extS_l, opt_s, wFs_nil, wFs_cons, wOs_nil, wOs_cons, wAs_nil, wAs_cons, wAs_bor, wBo_one, wBo_cons, wPart_nil, wPart_one, wCond_nil, wCond_one, wIt_rng1, wIt_rng2, wIt_seq, onInt_i, onSeq_l, onSeq_t, onTup_t, wSs_nil, wSs_cons, wS_set, wS_setT, wS_par, wS_setI, wS_aug, augEn_val, augEn_own, wS_augI, wS_ex, wS_ret, wS_retN, wS_ifs, wS_fo, wS_brk, wS_pas, ix_t, ix_l, ix_o, sl_t, sl_l, sl_o, o_add, o_sub, o_mul, o_fdiv, o_mod, o_pow, o_addT, o_addDD, o_addDO, o_addOD, o_addOO, neg_i, c_lt, c_le, c_gt, c_ge, c_eqI, c_neI, f_lenT, f_lenL, f_lenO, f_int, f_intB, f_abs, f_max2, f_min2, f_tupT, f_tupL, f_tupO, f_lstT, f_lstL, f_lstO, f_isB, f_isI, f_isS, f_isT, f_sumL, f_sumT, f_maxO, f_minO, f_maxT, f_minT, f_sortO, f_setO, mm_app, mm_rev, mm_pop, si_l, get_0, get_s, resEn_own, resEn_bor, resEn_val, frzEn_own, frzEn_val, retEn_own, retEn_val, objEn_own, objEn_bor, isObEn_own, isObEn_bor, isLsEn_own, isLsEn_bor, putEn_own, putEn_bor, agEn_own, agEn_bor, ag_nil, ag_one, true_and, and_true, vB, List.replicate, List.length_cons, List.length_nil, List.cons_append, List.nil_append, List.set, List.map_cons, List.map_nil, agSlots, putObs, notSlot_val, notSlot_obj, List.all_cons, List.all_nil, Bool.and_self, Bool.and_true, outsFrom, obOf_bor, obOf_own, wipeE, back, isBd, isId, isSd, isTd, noneB, c2, decide_false, Bool.false_eq_true, if_false]
      refine ⟨by decide, ⟨sm, by omega⟩, ?_⟩
      rw [hr]
      refine draws_loop (cells := ns) (List.length_pos_iff.mpr c) (fun e3 rest drawn e6 e7 e8 => ?_) .no _ ns [] .no .no .no trivial trivial trivial trivial rfl hd
      simp only [bodyCt, wE_v, wE_g, wE_k, wE_op, wE_neg, wE_cmp, wE_isN, wE_ch, wE_nt, wE_bo, wE_ife, wE_tup, wE_lst, wE_dnew, wE_ix, wE_sl, wE_call, wE_bf, wE_mut, wE_comp, onEn_val, onEn_own, onEn_bor, res_val, res_obj, res_slot, frz_val, frz_obj, frz_slot, retR_val, retR_obj, retR_slot, objAt_w, isObj_w, isLst_w, putOb_w, agEn_d, agEn_s, setV_w, setEn_no, setEn_val, setEn_own, isNEn_d, isNEn_o, asB_b, onVal_v, setR_val, setR_obj, setR_slot, setRs_nil, setRs_cons, setVs_nil, setVs_cons, asgT_one, asgT_tup, extS_l, opt_s, wFs_nil, wFs_cons, wOs_nil, wOs_cons, wAs_nil, wAs_cons, wAs_bor, wBo_one, wBo_cons, wPart_nil, wPart_one, wCond_nil, wCond_one, wIt_rng1, wIt_rng2, wIt_seq, onInt_i, onSeq_l, onSeq_t, onTup_t, wSs_nil, wSs_cons, wS_set, wS_setT, wS_par, wS_setI, wS_aug, augEn_val, augEn_own, wS_augI, wS_ex, wS_ret, wS_retN, wS_ifs, wS_fo, wS_brk, wS_pas, ix_t, ix_l, ix_o, sl_t, sl_l, sl_o, o_add, o_sub, o_mul, o_fdiv, o_mod, o_pow, o_addT, o_addDD, o_addDO, o_addOD, o_addOO, neg_i, c_lt, c_le, c_gt, c_ge, c_eqI, c_neI, f_lenT, f_lenL, f_lenO, f_int, f_intB, f_abs, f_max2, f_min2, f_tupT, f_tupL, f_tupO, f_lstT, f_lstL, f_lstO, f_isB, f_isI, f_isS, f_isT, f_sumL, f_sumT, f_maxO, f_minO, f_maxT, f_minT, f_sortO, f_setO, mm_app, mm_rev, mm_pop, si_l, get_0, get_s, resEn_own, resEn_bor, resEn_val, frzEn_own, frzEn_val, retEn_own, retEn_val, objEn_own, objEn_bor, isObEn_own, isObEn_bor, isLsEn_own, isLsEn_bor, putEn_own, putEn_bor, agEn_own, agEn_bor, ag_nil, ag_one, true_and, and_true, vB, List.replicate, List.length_cons, List.length_nil, List.cons_append, List.nil_append, List.set, List.map_cons, List.map_nil, agSlots, putObs, notSlot_val, notSlot_obj, List.all_cons, List.all_nil, Bool.and_self, Bool.and_true, outsFrom, obOf_bor, obOf_own, wipeE, back, isBd, isId, isSd, isTd, noneB]
      rw [← List.map_reverse]
      exact h _
def irCell (f : Nat) : ISs := (.cons (.ifs (.cmp .eq (.bf .len (.cons (.v 0) .nil)) (.k (.int 0))) (.cons (.ret (.k (.int 0)))
  .nil) .nil)
  (.cons (.set 2 (.bf .int (.cons (.ix (.v 0) (.call f (.bor 1 (.cons (.bf .len (.cons (.v 0) .nil)) .nil)))) .nil)))
  (.cons (.ret (.op .mul (.op .mod (.bf .abs (.cons (.v 2) .nil)) (.op .pow (.k (.int 10)) (.k (.int 60)))) (.ix (.lst (.cons (.k (.int 1)) (.cons (.neg (.k (.int 1))) .nil))) (.bf .int (.cons (.cmp .lt (.v 2) (.k (.int 0))) .nil)))))
  .nil)))
theorem s_cell {f : Nat} (hf : Γ f = ctTake) {es : List En} {K : Rs → List Ob → Prop} (h : ctCell es K) : bodyCt Γ 3 (irCell f) es K := by
  obtain ⟨ns, l, rfl, h⟩ := h
  unfold irCell
  simp only [bodyCt, wE_v, wE_g, wE_k, wE_op, wE_neg, wE_cmp, wE_isN, wE_ch, wE_nt, wE_bo, wE_ife, wE_tup, wE_lst, wE_dnew, wE_ix, wE_sl, wE_call, wE_bf, wE_mut, wE_comp, onEn_val, onEn_own, onEn_bor, res_val, res_obj, res_slot, frz_val, frz_obj, frz_slot, retR_val, retR_obj, retR_slot, objAt_w, isObj_w, isLst_w, putOb_w, agEn_d, agEn_s, setV_w, setEn_no, setEn_val, setEn_own, isNEn_d, isNEn_o, asB_b, onVal_v, setR_val, setR_obj, setR_slot, setRs_nil, setRs_cons, setVs_nil, setVs_cons, asgT_one, asgT_tup, extS_l, opt_s, wFs_nil, wFs_cons, wOs_nil, wOs_cons, wAs_nil, wAs_cons, wAs_bor, wBo_one, wBo_cons, wPart_nil, wPart_one, wCond_nil, wCond_one, wIt_rng1, wIt_rng2, wIt_seq, onInt_i, onSeq_l, onSeq_t, onTup_t, wSs_nil, wSs_cons, wS_set, wS_setT, wS_par, wS_setI, wS_aug, augEn_val, augEn_own, wS_augI, wS_ex, wS_ret, wS_retN, wS_ifs, wS_fo, wS_brk, wS_pas, ix_t, ix_l, ix_o, sl_t, sl_l, sl_o, o_add, o_sub, o_mul, o_fdiv, o_mod, o_pow, o_addT, o_addDD, o_addDO, o_addOD, o_addOO, neg_i, c_lt, c_le, c_gt, c_ge, c_eqI, c_neI, f_lenT, f_lenL, f_lenO, f_int, f_intB, f_abs, f_max2, f_min2, f_tupT, f_tupL, f_tupO, f_lstT, f_lstL, f_lstO, f_isB, f_isI, f_isS, f_isT, f_sumL, f_sumT, f_maxO, f_minO, f_maxT, f_minT, f_sortO, f_setO, mm_app, mm_rev, mm_pop, si_l, get_0, get_s, resEn_own, resEn_bor, resEn_val, frzEn_own, frzEn_val, retEn_own, retEn_val, objEn_own, objEn_bor, isObEn_own, isObEn_bor, isLsEn_own, isLsEn_bor, putEn_own, putEn_bor, agEn_own, agEn_bor, ag_nil, ag_one, true_and, and_true, vB, List.replicate, List.length_cons, List.length_nil, List.cons_append, List.nil_append, List.set, List.map_cons, List.map_nil, agSlots, putObs, notSlot_val, notSlot_obj, List.all_cons, List.all_nil, Bool.and_self, Bool.and_true, outsFrom, obOf_bor, obOf_own, wipeE, back, isBd, isId, isSd, isTd, noneB, intO, List.length_map]
  by_cases c : ns = []
  · subst c
    simpa [intO] using h 0 l (by decide)
  · have c2 : ¬ ((ns.length : Nat) : Int) = 0 := by
      cases ns with
      | nil => exact absurd rfl c
      | cons a b => simp; omega
    have c3 : 0 < ns.length := List.length_pos_iff.mpr c
    simp only [bodyCt, wE_v, wE_g, wE_k, wE_op, wE_neg, wE_cmp, wE_isN, wE_ch, wE_nt, wE_bo, wE_ife, wE_tup, wE_lst, wE_dnew, wE_ix, wE_sl, wE_call, wE_bf, wE_mut, wE_comp, onEn_val, onEn_own, onEn_bor, res_val, res_obj, res_slot, frz_val, frz_obj, frz_slot, retR_val, retR_obj, retR_slot, objAt_w, isObj_w, isLst_w, putOb_w, agEn_d, agEn_s, setV_w, setEn_no, setEn_val, setEn_own, isNEn_d, isNEn_o, asB_b, onVal_v, setR_val, setR_obj, setR_slot, setRs_nil, setRs_cons, setVs_nil, setVs_cons, asgT_one, asgT_tup, extS_l, opt_s, wFs_nil, wFs_cons, wOs_nil, wOs_cons, wAs_nil, wAs_cons, wAs_bor, wBo_one, wBo_cons, wPart_nil, wPart_one, wCond_nil, wCond_one, wIt_rng1, wIt_rng2, wIt_seq, onInt_i, onSeq_l, onSeq_t, onTup_t, wSs_nil, wSs_cons, wS_set, wS_setT, wS_par, wS_setI, wS_aug, augEn_val, augEn_own, wS_augI, wS_ex, wS_ret, wS_retN, wS_ifs, wS_fo, wS_brk, wS_pas, ix_t, ix_l, ix_o, sl_t, sl_l, sl_o, o_add, o_sub, o_mul, o_fdiv, o_mod, o_pow, o_addT, o_addDD, o_addDO, o_addOD, o_addOO, neg_i, c_lt, c_le, c_gt, c_ge, c_eqI, c_neI, f_lenT, f_lenL, f_lenO, f_int, f_intB, f_abs, f_max2, f_min2, f_tupT, f_tupL, f_tupO, f_lstT, f_lstL, f_lstO, f_isB, f_isI, f_isS, f_isT, f_sumL, f_sumT, f_maxO, f_minO, f_maxT, f_minT, f_sortO, f_setO, mm_app, mm_rev, mm_pop, si_l, get_0, get_s, resEn_own, resEn_bor, resEn_val, frzEn_own, frzEn_val, retEn_own, retEn_val, objEn_own, objEn_bor, isObEn_own, isObEn_bor, isLsEn_own, isLsEn_bor, putEn_own, putEn_bor, agEn_own, agEn_bor, ag_nil, ag_one, true_and, and_true, vB, List.replicate, List.length_cons, List.length_nil, List.cons_append, List.nil_append, List.set, List.map_cons, List.map_nil, agSlots, putObs, notSlot_val, notSlot_obj, List.all_cons, List.all_nil, Bool.and_self, Bool.and_true, outsFrom, obOf_bor, obOf_own, wipeE, back, isBd, isId, isSd, isTd, noneB, c2, decide_false, Bool.false_eq_true, if_false]
    rw [hf]
    refine ⟨l, _, rfl, by omega, fun v l' v0 v1 => ⟨rfl, ?_⟩⟩
    simp only [bodyCt, wE_v, wE_g, wE_k, wE_op, wE_neg, wE_cmp, wE_isN, wE_ch, wE_nt, wE_bo, wE_ife, wE_tup, wE_lst, wE_dnew, wE_ix, wE_sl, wE_call, wE_bf, wE_mut, wE_comp, onEn_val, onEn_own, onEn_bor, res_val, res_obj, res_slot, frz_val, frz_obj, frz_slot, retR_val, retR_obj, retR_slot, objAt_w, isObj_w, isLst_w, putOb_w, agEn_d, agEn_s, setV_w, setEn_no, setEn_val, setEn_own, isNEn_d, isNEn_o, asB_b, onVal_v, setR_val, setR_obj, setR_slot, setRs_nil, setRs_cons, setVs_nil, setVs_cons, asgT_one, asgT_tup, extS_l, opt_s, wFs_nil, wFs_cons, wOs_nil, wOs_cons, wAs_nil, wAs_cons, wAs_bor, wBo_one, wBo_cons, wPart_nil, wPart_one, wCond_nil, wCond_one, wIt_rng1, wIt_rng2, wIt_seq, onInt_i, onSeq_l, onSeq_t, onTup_t, wSs_nil, wSs_cons, wS_set, wS_setT, wS_par, wS_setI, wS_aug, augEn_val, augEn_own, wS_augI, wS_ex, wS_ret, wS_retN, wS_ifs, wS_fo, wS_brk, wS_pas, ix_t, ix_l, ix_o, sl_t, sl_l, sl_o, o_add, o_sub, o_mul, o_fdiv, o_mod, o_pow, o_addT, o_addDD, o_addDO, o_addOD, o_addOO, neg_i, c_lt, c_le, c_gt, c_ge, c_eqI, c_neI, f_lenT, f_lenL, f_lenO, f_int, f_intB, f_abs, f_max2, f_min2, f_tupT, f_tupL, f_tupO, f_lstT, f_lstL, f_lstO, f_isB, f_isI, f_isS, f_isT, f_sumL, f_sumT, f_maxO, f_minO, f_maxT, f_minT, f_sortO, f_setO, mm_app, mm_rev, mm_pop, si_l, get_0, get_s, resEn_own, resEn_bor, resEn_val, frzEn_own, frzEn_val, retEn_own, retEn_val, objEn_own, objEn_bor, isObEn_own, isObEn_bor, isLsEn_own, isLsEn_bor, putEn_own, putEn_bor, agEn_own, agEn_bor, ag_nil, ag_one, true_and, and_true, vB, List.replicate, List.length_cons, List.length_nil, List.cons_append, List.nil_append, List.set, List.map_cons, List.map_nil, agSlots, putObs, notSlot_val, notSlot_obj, List.all_cons, List.all_nil, Bool.and_self, Bool.and_true, outsFrom, obOf_bor, obOf_own, wipeE, back, isBd, isId, isSd, isTd, noneB, atI_int v0 v1, intO]
    generalize ns.getD v.toNat 0 = y
    refine ⟨⟨by decide, by decide, by decide⟩, by decide, by decide, ?_⟩
    generalize hz : (if y < 0 then -y else y) % 10 ^ (60 : Int).toNat = z
    have p60 : (10 : Int) ^ (60 : Int).toNat = 10 ^ 60 := rfl
    rw [p60] at hz
    have z0 : 0 ≤ z := by rw [← hz]; exact Int.emod_nonneg _ (by decide)
    have z1 : z < 10 ^ 60 := by rw [← hz]; exact Int.emod_lt_of_pos _ (by decide)
    by_cases n : y < 0
    · simp only [n, decide_true, if_true]
      rw [show atI [PyData.int 1, PyData.int (-1)] 1 = some (.int (-1)) from rfl]
      simp only [bodyCt, wE_v, wE_g, wE_k, wE_op, wE_neg, wE_cmp, wE_isN, wE_ch, wE_nt, wE_bo, wE_ife, wE_tup, wE_lst, wE_dnew, wE_ix, wE_sl, wE_call, wE_bf, wE_mut, wE_comp, onEn_val, onEn_own, onEn_bor, res_val, res_obj, res_slot, frz_val, frz_obj, frz_slot, retR_val, retR_obj, retR_slot, objAt_w, isObj_w, isLst_w, putOb_w, agEn_d, agEn_s, setV_w, setEn_no, setEn_val, setEn_own, isNEn_d, isNEn_o, asB_b, onVal_v, setR_val, setR_obj, setR_slot, setRs_nil, setRs_cons, setVs_nil, setVs_cons, asgT_one, asgT_tup, extS_l, opt_s, wFs_nil, wFs_cons, wOs_nil, wOs_cons, wAs_nil, wAs_cons, wAs_bor, wBo_one, wBo_cons, wPart_nil, wPart_one, wCond_nil, wCond_one, wIt_rng1, wIt_rng2, wIt_seq, onInt_i, onSeq_l, onSeq_t, onTup_t, wSs_nil, wSs_cons, wS_set, wS_setT, wS_par, wS_setI, wS_aug, augEn_val, augEn_own, wS_augI, wS_ex, wS_ret, wS_retN, wS_ifs, wS_fo, wS_brk, wS_pas, ix_t, ix_l, ix_o, sl_t, sl_l, sl_o, o_add, o_sub, o_mul, o_fdiv, o_mod, o_pow, o_addT, o_addDD, o_addDO, o_addOD, o_addOO, neg_i, c_lt, c_le, c_gt, c_ge, c_eqI, c_neI, f_lenT, f_lenL, f_lenO, f_int, f_intB, f_abs, f_max2, f_min2, f_tupT, f_tupL, f_tupO, f_lstT, f_lstL, f_lstO, f_isB, f_isI, f_isS, f_isT, f_sumL, f_sumT, f_maxO, f_minO, f_maxT, f_minT, f_sortO, f_setO, mm_app, mm_rev, mm_pop, si_l, get_0, get_s, resEn_own, resEn_bor, resEn_val, frzEn_own, frzEn_val, retEn_own, retEn_val, objEn_own, objEn_bor, isObEn_own, isObEn_bor, isLsEn_own, isLsEn_bor, putEn_own, putEn_bor, agEn_own, agEn_bor, ag_nil, ag_one, true_and, and_true, vB, List.replicate, List.length_cons, List.length_nil, List.cons_append, List.nil_append, List.set, List.map_cons, List.map_nil, agSlots, putObs, notSlot_val, notSlot_obj, List.all_cons, List.all_nil, Bool.and_self, Bool.and_true, outsFrom, obOf_bor, obOf_own, wipeE, back, isBd, isId, isSd, isTd, noneB]
      refine ⟨mul_small (by decide) (by decide), ?_⟩
      have := h (z * -1) l' (by omega)
      simpa [intO] using this
    · simp only [n, decide_false, Bool.false_eq_true, if_false]
      rw [show atI [PyData.int 1, PyData.int (-1)] 0 = some (.int 1) from rfl]
      simp only [bodyCt, wE_v, wE_g, wE_k, wE_op, wE_neg, wE_cmp, wE_isN, wE_ch, wE_nt, wE_bo, wE_ife, wE_tup, wE_lst, wE_dnew, wE_ix, wE_sl, wE_call, wE_bf, wE_mut, wE_comp, onEn_val, onEn_own, onEn_bor, res_val, res_obj, res_slot, frz_val, frz_obj, frz_slot, retR_val, retR_obj, retR_slot, objAt_w, isObj_w, isLst_w, putOb_w, agEn_d, agEn_s, setV_w, setEn_no, setEn_val, setEn_own, isNEn_d, isNEn_o, asB_b, onVal_v, setR_val, setR_obj, setR_slot, setRs_nil, setRs_cons, setVs_nil, setVs_cons, asgT_one, asgT_tup, extS_l, opt_s, wFs_nil, wFs_cons, wOs_nil, wOs_cons, wAs_nil, wAs_cons, wAs_bor, wBo_one, wBo_cons, wPart_nil, wPart_one, wCond_nil, wCond_one, wIt_rng1, wIt_rng2, wIt_seq, onInt_i, onSeq_l, onSeq_t, onTup_t, wSs_nil, wSs_cons, wS_set, wS_setT, wS_par, wS_setI, wS_aug, augEn_val, augEn_own, wS_augI, wS_ex, wS_ret, wS_retN, wS_ifs, wS_fo, wS_brk, wS_pas, ix_t, ix_l, ix_o, sl_t, sl_l, sl_o, o_add, o_sub, o_mul, o_fdiv, o_mod, o_pow, o_addT, o_addDD, o_addDO, o_addOD, o_addOO, neg_i, c_lt, c_le, c_gt, c_ge, c_eqI, c_neI, f_lenT, f_lenL, f_lenO, f_int, f_intB, f_abs, f_max2, f_min2, f_tupT, f_tupL, f_tupO, f_lstT, f_lstL, f_lstO, f_isB, f_isI, f_isS, f_isT, f_sumL, f_sumT, f_maxO, f_minO, f_maxT, f_minT, f_sortO, f_setO, mm_app, mm_rev, mm_pop, si_l, get_0, get_s, resEn_own, resEn_bor, resEn_val, frzEn_own, frzEn_val, retEn_own, retEn_val, objEn_own, objEn_bor, isObEn_own, isObEn_bor, isLsEn_own, isLsEn_bor, putEn_own, putEn_bor, agEn_own, agEn_bor, ag_nil, ag_one, true_and, and_true, vB, List.replicate, List.length_cons, List.length_nil, List.cons_append, List.nil_append, List.set, List.map_cons, List.map_nil, agSlots, putObs, notSlot_val, notSlot_obj, List.all_cons, List.all_nil, Bool.and_self, Bool.and_true, outsFrom, obOf_bor, obOf_own, wipeE, back, isBd, isId, isSd, isTd, noneB]
      refine ⟨mul_small (by decide) (by decide), ?_⟩
      have := h (z * 1) l' (by omega)
      simpa [intO] using this
def irSame (f : Nat) : ISs := (.cons (.ifs (.isN false (.v 1)) (.cons (.ret (.isN false (.v 0)))
  .nil) .nil)
  (.cons (.ifs (.bf .isB (.cons (.v 1) .nil)) (.cons (.ret (.bo true (.cons (.bf .isB (.cons (.v 0) .nil)) (.cons (.cmp .eq (.v 0) (.v 1)) .nil))))
  .nil) .nil)
  (.cons (.ifs (.bf .isI (.cons (.v 1) .nil)) (.cons (.ret (.bo true (.cons (.bf .isI (.cons (.v 0) .nil)) (.cons (.nt (.bf .isB (.cons (.v 0) .nil))) (.cons (.cmp .eq (.v 0) (.v 1)) .nil)))))
  .nil) .nil)
  (.cons (.ifs (.bf .isS (.cons (.v 1) .nil)) (.cons (.ret (.bo true (.cons (.bf .isS (.cons (.v 0) .nil)) (.cons (.cmp .eq (.v 0) (.v 1)) .nil))))
  .nil) .nil)
  (.cons (.ifs (.bo false (.cons (.nt (.bf .isT (.cons (.v 0) .nil))) (.cons (.cmp .ne (.bf .len (.cons (.v 0) .nil)) (.bf .len (.cons (.v 1) .nil))) .nil))) (.cons (.ret (.k (.bool false)))
  .nil) .nil)
  (.cons (.fo (.one 2) .rng1 (.cons (.bf .len (.cons (.v 1) .nil)) .nil) (.cons (.ifs (.nt (.call f (.cons (.ix (.v 0) (.v 2)) (.cons (.ix (.v 1) (.v 2)) .nil)))) (.cons (.ret (.k (.bool false)))
  .nil) .nil)
  .nil))
  (.cons (.ret (.k (.bool true)))
  .nil)))))))
theorem eq_self {d : PyData} {kb : Bool → Prop} (h : SeqAt.shaped d = true) (e : PyData.eqv d d = true) (hk : kb true) : semC .eq (.d d) (.d d) kb :=
  show (SeqAt.shaped d = true ∧ SeqAt.shaped d = true) ∧ kb (PyData.eqv d d) from ⟨⟨h, h⟩, by rw [e]; exact hk⟩
theorem s_same {n f : Nat} (hf : Γ f = ctSame n) {es : List En} {K : Rs → List Ob → Prop} (h : ctSame (n + 1) es K) : bodyCt Γ 3 (irSame f) es K := by
  obtain ⟨d, rfl, sh, h⟩ := h
  unfold irSame
  cases d with
  | none =>
    simp only [bodyCt, wE_v, wE_g, wE_k, wE_op, wE_neg, wE_cmp, wE_isN, wE_ch, wE_nt, wE_bo, wE_ife, wE_tup, wE_lst, wE_dnew, wE_ix, wE_sl, wE_call, wE_bf, wE_mut, wE_comp, onEn_val, onEn_own, onEn_bor, res_val, res_obj, res_slot, frz_val, frz_obj, frz_slot, retR_val, retR_obj, retR_slot, objAt_w, isObj_w, isLst_w, putOb_w, agEn_d, agEn_s, setV_w, setEn_no, setEn_val, setEn_own, isNEn_d, isNEn_o, asB_b, onVal_v, setR_val, setR_obj, setR_slot, setRs_nil, setRs_cons, setVs_nil, setVs_cons, asgT_one, asgT_tup, extS_l, opt_s, wFs_nil, wFs_cons, wOs_nil, wOs_cons, wAs_nil, wAs_cons, wAs_bor, wBo_one, wBo_cons, wPart_nil, wPart_one, wCond_nil, wCond_one, wIt_rng1, wIt_rng2, wIt_seq, onInt_i, onSeq_l, onSeq_t, onTup_t, wSs_nil, wSs_cons, wS_set, wS_setT, wS_par, wS_setI, wS_aug, augEn_val, augEn_own, wS_augI, wS_ex, wS_ret, wS_retN, wS_ifs, wS_fo, wS_brk, wS_pas, ix_t, ix_l, ix_o, sl_t, sl_l, sl_o, o_add, o_sub, o_mul, o_fdiv, o_mod, o_pow, o_addT, o_addDD, o_addDO, o_addOD, o_addOO, neg_i, c_lt, c_le, c_gt, c_ge, c_eqI, c_neI, f_lenT, f_lenL, f_lenO, f_int, f_intB, f_abs, f_max2, f_min2, f_tupT, f_tupL, f_tupO, f_lstT, f_lstL, f_lstO, f_isB, f_isI, f_isS, f_isT, f_sumL, f_sumT, f_maxO, f_minO, f_maxT, f_minT, f_sortO, f_setO, mm_app, mm_rev, mm_pop, si_l, get_0, get_s, resEn_own, resEn_bor, resEn_val, frzEn_own, frzEn_val, retEn_own, retEn_val, objEn_own, objEn_bor, isObEn_own, isObEn_bor, isLsEn_own, isLsEn_bor, putEn_own, putEn_bor, agEn_own, agEn_bor, ag_nil, ag_one, true_and, and_true, vB, List.replicate, List.length_cons, List.length_nil, List.cons_append, List.nil_append, List.set, List.map_cons, List.map_nil, agSlots, putObs, notSlot_val, notSlot_obj, List.all_cons, List.all_nil, Bool.and_self, Bool.and_true, outsFrom, obOf_bor, obOf_own, wipeE, back, isBd, isId, isSd, isTd, noneB, isNEn_d, if_true, Bool.false_eq_true, if_false]
    exact h
  | bool b =>
    simp only [bodyCt, wE_v, wE_g, wE_k, wE_op, wE_neg, wE_cmp, wE_isN, wE_ch, wE_nt, wE_bo, wE_ife, wE_tup, wE_lst, wE_dnew, wE_ix, wE_sl, wE_call, wE_bf, wE_mut, wE_comp, onEn_val, onEn_own, onEn_bor, res_val, res_obj, res_slot, frz_val, frz_obj, frz_slot, retR_val, retR_obj, retR_slot, objAt_w, isObj_w, isLst_w, putOb_w, agEn_d, agEn_s, setV_w, setEn_no, setEn_val, setEn_own, isNEn_d, isNEn_o, asB_b, onVal_v, setR_val, setR_obj, setR_slot, setRs_nil, setRs_cons, setVs_nil, setVs_cons, asgT_one, asgT_tup, extS_l, opt_s, wFs_nil, wFs_cons, wOs_nil, wOs_cons, wAs_nil, wAs_cons, wAs_bor, wBo_one, wBo_cons, wPart_nil, wPart_one, wCond_nil, wCond_one, wIt_rng1, wIt_rng2, wIt_seq, onInt_i, onSeq_l, onSeq_t, onTup_t, wSs_nil, wSs_cons, wS_set, wS_setT, wS_par, wS_setI, wS_aug, augEn_val, augEn_own, wS_augI, wS_ex, wS_ret, wS_retN, wS_ifs, wS_fo, wS_brk, wS_pas, ix_t, ix_l, ix_o, sl_t, sl_l, sl_o, o_add, o_sub, o_mul, o_fdiv, o_mod, o_pow, o_addT, o_addDD, o_addDO, o_addOD, o_addOO, neg_i, c_lt, c_le, c_gt, c_ge, c_eqI, c_neI, f_lenT, f_lenL, f_lenO, f_int, f_intB, f_abs, f_max2, f_min2, f_tupT, f_tupL, f_tupO, f_lstT, f_lstL, f_lstO, f_isB, f_isI, f_isS, f_isT, f_sumL, f_sumT, f_maxO, f_minO, f_maxT, f_minT, f_sortO, f_setO, mm_app, mm_rev, mm_pop, si_l, get_0, get_s, resEn_own, resEn_bor, resEn_val, frzEn_own, frzEn_val, retEn_own, retEn_val, objEn_own, objEn_bor, isObEn_own, isObEn_bor, isLsEn_own, isLsEn_bor, putEn_own, putEn_bor, agEn_own, agEn_bor, ag_nil, ag_one, true_and, and_true, vB, List.replicate, List.length_cons, List.length_nil, List.cons_append, List.nil_append, List.set, List.map_cons, List.map_nil, agSlots, putObs, notSlot_val, notSlot_obj, List.all_cons, List.all_nil, Bool.and_self, Bool.and_true, outsFrom, obOf_bor, obOf_own, wipeE, back, isBd, isId, isSd, isTd, noneB, isNEn_d, if_true, Bool.false_eq_true, if_false]
    exact eq_self rfl (by cases b <;> rfl) h
  | int i =>
    simp only [bodyCt, wE_v, wE_g, wE_k, wE_op, wE_neg, wE_cmp, wE_isN, wE_ch, wE_nt, wE_bo, wE_ife, wE_tup, wE_lst, wE_dnew, wE_ix, wE_sl, wE_call, wE_bf, wE_mut, wE_comp, onEn_val, onEn_own, onEn_bor, res_val, res_obj, res_slot, frz_val, frz_obj, frz_slot, retR_val, retR_obj, retR_slot, objAt_w, isObj_w, isLst_w, putOb_w, agEn_d, agEn_s, setV_w, setEn_no, setEn_val, setEn_own, isNEn_d, isNEn_o, asB_b, onVal_v, setR_val, setR_obj, setR_slot, setRs_nil, setRs_cons, setVs_nil, setVs_cons, asgT_one, asgT_tup, extS_l, opt_s, wFs_nil, wFs_cons, wOs_nil, wOs_cons, wAs_nil, wAs_cons, wAs_bor, wBo_one, wBo_cons, wPart_nil, wPart_one, wCond_nil, wCond_one, wIt_rng1, wIt_rng2, wIt_seq, onInt_i, onSeq_l, onSeq_t, onTup_t, wSs_nil, wSs_cons, wS_set, wS_setT, wS_par, wS_setI, wS_aug, augEn_val, augEn_own, wS_augI, wS_ex, wS_ret, wS_retN, wS_ifs, wS_fo, wS_brk, wS_pas, ix_t, ix_l, ix_o, sl_t, sl_l, sl_o, o_add, o_sub, o_mul, o_fdiv, o_mod, o_pow, o_addT, o_addDD, o_addDO, o_addOD, o_addOO, neg_i, c_lt, c_le, c_gt, c_ge, c_eqI, c_neI, f_lenT, f_lenL, f_lenO, f_int, f_intB, f_abs, f_max2, f_min2, f_tupT, f_tupL, f_tupO, f_lstT, f_lstL, f_lstO, f_isB, f_isI, f_isS, f_isT, f_sumL, f_sumT, f_maxO, f_minO, f_maxT, f_minT, f_sortO, f_setO, mm_app, mm_rev, mm_pop, si_l, get_0, get_s, resEn_own, resEn_bor, resEn_val, frzEn_own, frzEn_val, retEn_own, retEn_val, objEn_own, objEn_bor, isObEn_own, isObEn_bor, isLsEn_own, isLsEn_bor, putEn_own, putEn_bor, agEn_own, agEn_bor, ag_nil, ag_one, true_and, and_true, vB, List.replicate, List.length_cons, List.length_nil, List.cons_append, List.nil_append, List.set, List.map_cons, List.map_nil, agSlots, putObs, notSlot_val, notSlot_obj, List.all_cons, List.all_nil, Bool.and_self, Bool.and_true, outsFrom, obOf_bor, obOf_own, wipeE, back, isBd, isId, isSd, isTd, noneB, isNEn_d, if_true, Bool.false_eq_true, if_false, Bool.not_false, Bool.not_true]
    simp only [decide_true]
    exact h
  | str x =>
    simp only [bodyCt, wE_v, wE_g, wE_k, wE_op, wE_neg, wE_cmp, wE_isN, wE_ch, wE_nt, wE_bo, wE_ife, wE_tup, wE_lst, wE_dnew, wE_ix, wE_sl, wE_call, wE_bf, wE_mut, wE_comp, onEn_val, onEn_own, onEn_bor, res_val, res_obj, res_slot, frz_val, frz_obj, frz_slot, retR_val, retR_obj, retR_slot, objAt_w, isObj_w, isLst_w, putOb_w, agEn_d, agEn_s, setV_w, setEn_no, setEn_val, setEn_own, isNEn_d, isNEn_o, asB_b, onVal_v, setR_val, setR_obj, setR_slot, setRs_nil, setRs_cons, setVs_nil, setVs_cons, asgT_one, asgT_tup, extS_l, opt_s, wFs_nil, wFs_cons, wOs_nil, wOs_cons, wAs_nil, wAs_cons, wAs_bor, wBo_one, wBo_cons, wPart_nil, wPart_one, wCond_nil, wCond_one, wIt_rng1, wIt_rng2, wIt_seq, onInt_i, onSeq_l, onSeq_t, onTup_t, wSs_nil, wSs_cons, wS_set, wS_setT, wS_par, wS_setI, wS_aug, augEn_val, augEn_own, wS_augI, wS_ex, wS_ret, wS_retN, wS_ifs, wS_fo, wS_brk, wS_pas, ix_t, ix_l, ix_o, sl_t, sl_l, sl_o, o_add, o_sub, o_mul, o_fdiv, o_mod, o_pow, o_addT, o_addDD, o_addDO, o_addOD, o_addOO, neg_i, c_lt, c_le, c_gt, c_ge, c_eqI, c_neI, f_lenT, f_lenL, f_lenO, f_int, f_intB, f_abs, f_max2, f_min2, f_tupT, f_tupL, f_tupO, f_lstT, f_lstL, f_lstO, f_isB, f_isI, f_isS, f_isT, f_sumL, f_sumT, f_maxO, f_minO, f_maxT, f_minT, f_sortO, f_setO, mm_app, mm_rev, mm_pop, si_l, get_0, get_s, resEn_own, resEn_bor, resEn_val, frzEn_own, frzEn_val, retEn_own, retEn_val, objEn_own, objEn_bor, isObEn_own, isObEn_bor, isLsEn_own, isLsEn_bor, putEn_own, putEn_bor, agEn_own, agEn_bor, ag_nil, ag_one, true_and, and_true, vB, List.replicate, List.length_cons, List.length_nil, List.cons_append, List.nil_append, List.set, List.map_cons, List.map_nil, agSlots, putObs, notSlot_val, notSlot_obj, List.all_cons, List.all_nil, Bool.and_self, Bool.and_true, outsFrom, obOf_bor, obOf_own, wipeE, back, isBd, isId, isSd, isTd, noneB, isNEn_d, if_true, Bool.false_eq_true, if_false, Bool.not_false, Bool.not_true]
    exact eq_self sh (by simp [PyData.eqv]) h
  | list _ => exact sh.elim
  | dict _ => exact sh.elim
  | tuple ds =>
    obtain ⟨hl, hs⟩ := sh
    simp only [bodyCt, wE_v, wE_g, wE_k, wE_op, wE_neg, wE_cmp, wE_isN, wE_ch, wE_nt, wE_bo, wE_ife, wE_tup, wE_lst, wE_dnew, wE_ix, wE_sl, wE_call, wE_bf, wE_mut, wE_comp, onEn_val, onEn_own, onEn_bor, res_val, res_obj, res_slot, frz_val, frz_obj, frz_slot, retR_val, retR_obj, retR_slot, objAt_w, isObj_w, isLst_w, putOb_w, agEn_d, agEn_s, setV_w, setEn_no, setEn_val, setEn_own, isNEn_d, isNEn_o, asB_b, onVal_v, setR_val, setR_obj, setR_slot, setRs_nil, setRs_cons, setVs_nil, setVs_cons, asgT_one, asgT_tup, extS_l, opt_s, wFs_nil, wFs_cons, wOs_nil, wOs_cons, wAs_nil, wAs_cons, wAs_bor, wBo_one, wBo_cons, wPart_nil, wPart_one, wCond_nil, wCond_one, wIt_rng1, wIt_rng2, wIt_seq, onInt_i, onSeq_l, onSeq_t, onTup_t, wSs_nil, wSs_cons, wS_set, wS_setT, wS_par, wS_setI, wS_aug, augEn_val, augEn_own, wS_augI, wS_ex, wS_ret, wS_retN, wS_ifs, wS_fo, wS_brk, wS_pas, ix_t, ix_l, ix_o, sl_t, sl_l, sl_o, o_add, o_sub, o_mul, o_fdiv, o_mod, o_pow, o_addT, o_addDD, o_addDO, o_addOD, o_addOO, neg_i, c_lt, c_le, c_gt, c_ge, c_eqI, c_neI, f_lenT, f_lenL, f_lenO, f_int, f_intB, f_abs, f_max2, f_min2, f_tupT, f_tupL, f_tupO, f_lstT, f_lstL, f_lstO, f_isB, f_isI, f_isS, f_isT, f_sumL, f_sumT, f_maxO, f_minO, f_maxT, f_minT, f_sortO, f_setO, mm_app, mm_rev, mm_pop, si_l, get_0, get_s, resEn_own, resEn_bor, resEn_val, frzEn_own, frzEn_val, retEn_own, retEn_val, objEn_own, objEn_bor, isObEn_own, isObEn_bor, isLsEn_own, isLsEn_bor, putEn_own, putEn_bor, agEn_own, agEn_bor, ag_nil, ag_one, true_and, and_true, vB, List.replicate, List.length_cons, List.length_nil, List.cons_append, List.nil_append, List.set, List.map_cons, List.map_nil, agSlots, putObs, notSlot_val, notSlot_obj, List.all_cons, List.all_nil, Bool.and_self, Bool.and_true, outsFrom, obOf_bor, obOf_own, wipeE, back, isBd, isId, isSd, isTd, noneB, isNEn_d, if_true, Bool.false_eq_true, if_false, Bool.not_false, Bool.not_true, decide_true]
    refine ⟨⟨⟨by omega, by omega⟩, by omega⟩, ?_⟩
    refine wFor_map (fun i : Nat => .int (0 + (i : Nat))) (fun as ρ => ∃ e2, ρ = [.val (.tuple ds), .val (.tuple ds), e2] ∧ nb e2 ∧ ∀ i ∈ as, i < ds.length) ?_ ?_ (List.range (((ds.length : Nat) : Int) - 0).toNat) _ ⟨.no, rfl, trivial, fun i hi => by rw [List.mem_range] at hi; omega⟩
    · rintro a r ρ k ⟨e2, rfl, h2, hm⟩ hk
      have ha : a < ds.length := hm a List.mem_cons_self
      have at_ : atI ds (0 + (a : Nat)) = some ds[a] := by
        rw [atI_nn (by omega) (by omega), show (0 + (a : Int)).toNat = a by omega, List.getElem?_eq_getElem ha]
      simp only [bodyCt, wE_v, wE_g, wE_k, wE_op, wE_neg, wE_cmp, wE_isN, wE_ch, wE_nt, wE_bo, wE_ife, wE_tup, wE_lst, wE_dnew, wE_ix, wE_sl, wE_call, wE_bf, wE_mut, wE_comp, onEn_val, onEn_own, onEn_bor, res_val, res_obj, res_slot, frz_val, frz_obj, frz_slot, retR_val, retR_obj, retR_slot, objAt_w, isObj_w, isLst_w, putOb_w, agEn_d, agEn_s, setV_w, setEn_no, setEn_val, setEn_own, isNEn_d, isNEn_o, asB_b, onVal_v, setR_val, setR_obj, setR_slot, setRs_nil, setRs_cons, setVs_nil, setVs_cons, asgT_one, asgT_tup, extS_l, opt_s, wFs_nil, wFs_cons, wOs_nil, wOs_cons, wAs_nil, wAs_cons, wAs_bor, wBo_one, wBo_cons, wPart_nil, wPart_one, wCond_nil, wCond_one, wIt_rng1, wIt_rng2, wIt_seq, onInt_i, onSeq_l, onSeq_t, onTup_t, wSs_nil, wSs_cons, wS_set, wS_setT, wS_par, wS_setI, wS_aug, augEn_val, augEn_own, wS_augI, wS_ex, wS_ret, wS_retN, wS_ifs, wS_fo, wS_brk, wS_pas, ix_t, ix_l, ix_o, sl_t, sl_l, sl_o, o_add, o_sub, o_mul, o_fdiv, o_mod, o_pow, o_addT, o_addDD, o_addDO, o_addOD, o_addOO, neg_i, c_lt, c_le, c_gt, c_ge, c_eqI, c_neI, f_lenT, f_lenL, f_lenO, f_int, f_intB, f_abs, f_max2, f_min2, f_tupT, f_tupL, f_tupO, f_lstT, f_lstL, f_lstO, f_isB, f_isI, f_isS, f_isT, f_sumL, f_sumT, f_maxO, f_minO, f_maxT, f_minT, f_sortO, f_setO, mm_app, mm_rev, mm_pop, si_l, get_0, get_s, resEn_own, resEn_bor, resEn_val, frzEn_own, frzEn_val, retEn_own, retEn_val, objEn_own, objEn_bor, isObEn_own, isObEn_bor, isLsEn_own, isLsEn_bor, putEn_own, putEn_bor, agEn_own, agEn_bor, ag_nil, ag_one, true_and, and_true, vB, List.replicate, List.length_cons, List.length_nil, List.cons_append, List.nil_append, List.set, List.map_cons, List.map_nil, agSlots, putObs, notSlot_val, notSlot_obj, List.all_cons, List.all_nil, Bool.and_self, Bool.and_true, outsFrom, obOf_bor, obOf_own, wipeE, back, isBd, isId, isSd, isTd, noneB, setEn_nb h2, at_]
      rw [hf]
      refine ⟨ds[a], rfl, hs _ (List.getElem_mem _), rfl, ?_⟩
      simp only [bodyCt, wE_v, wE_g, wE_k, wE_op, wE_neg, wE_cmp, wE_isN, wE_ch, wE_nt, wE_bo, wE_ife, wE_tup, wE_lst, wE_dnew, wE_ix, wE_sl, wE_call, wE_bf, wE_mut, wE_comp, onEn_val, onEn_own, onEn_bor, res_val, res_obj, res_slot, frz_val, frz_obj, frz_slot, retR_val, retR_obj, retR_slot, objAt_w, isObj_w, isLst_w, putOb_w, agEn_d, agEn_s, setV_w, setEn_no, setEn_val, setEn_own, isNEn_d, isNEn_o, asB_b, onVal_v, setR_val, setR_obj, setR_slot, setRs_nil, setRs_cons, setVs_nil, setVs_cons, asgT_one, asgT_tup, extS_l, opt_s, wFs_nil, wFs_cons, wOs_nil, wOs_cons, wAs_nil, wAs_cons, wAs_bor, wBo_one, wBo_cons, wPart_nil, wPart_one, wCond_nil, wCond_one, wIt_rng1, wIt_rng2, wIt_seq, onInt_i, onSeq_l, onSeq_t, onTup_t, wSs_nil, wSs_cons, wS_set, wS_setT, wS_par, wS_setI, wS_aug, augEn_val, augEn_own, wS_augI, wS_ex, wS_ret, wS_retN, wS_ifs, wS_fo, wS_brk, wS_pas, ix_t, ix_l, ix_o, sl_t, sl_l, sl_o, o_add, o_sub, o_mul, o_fdiv, o_mod, o_pow, o_addT, o_addDD, o_addDO, o_addOD, o_addOO, neg_i, c_lt, c_le, c_gt, c_ge, c_eqI, c_neI, f_lenT, f_lenL, f_lenO, f_int, f_intB, f_abs, f_max2, f_min2, f_tupT, f_tupL, f_tupO, f_lstT, f_lstL, f_lstO, f_isB, f_isI, f_isS, f_isT, f_sumL, f_sumT, f_maxO, f_minO, f_maxT, f_minT, f_sortO, f_setO, mm_app, mm_rev, mm_pop, si_l, get_0, get_s, resEn_own, resEn_bor, resEn_val, frzEn_own, frzEn_val, retEn_own, retEn_val, objEn_own, objEn_bor, isObEn_own, isObEn_bor, isLsEn_own, isLsEn_bor, putEn_own, putEn_bor, agEn_own, agEn_bor, ag_nil, ag_one, true_and, and_true, vB, List.replicate, List.length_cons, List.length_nil, List.cons_append, List.nil_append, List.set, List.map_cons, List.map_nil, agSlots, putObs, notSlot_val, notSlot_obj, List.all_cons, List.all_nil, Bool.and_self, Bool.and_true, outsFrom, obOf_bor, obOf_own, wipeE, back, isBd, isId, isSd, isTd, noneB, Bool.not_true, Bool.false_eq_true, if_false]
      exact hk _ ⟨_, rfl, trivial, fun i hi => hm i (List.mem_cons_of_mem _ hi)⟩
    · rintro ρ ⟨e2, rfl, _⟩
      exact h
end Bo

set_option Elab.async false
set_option linter.all false
set_option maxRecDepth 100000
set_option maxHeartbeats 0
/-! K60: the text of the law, told in the small language. Printed by gen.py. -/
namespace K60
open PySem PySem.Spec PyProof.Rows L2 Bo
def ir_bears_at : ISs := (.cons (.fo (.tup [2, 3]) .seq (.cons (.v 0) .nil) (.cons (.ifs (.cmp .ge (.v 2) (.v 1)) (.cons (.ret (.v 3))
  .nil) .nil)
  .nil))
  (.cons (.ret (.k (.int 0)))
  .nil))
def N_bears_at : List Str := ["steps", "reach", "own", "bears"]
def ir_reach_for : ISs := (.cons (.set 2 (.comp [("own", 3), ("bears", 4)] (.tup [3, 4]) .seq (.cons (.v 0) .nil) (.cons (.cmp .ge (.v 4) (.v 1)) .nil) (.v 3)))
  (.cons (.ret (.ife (.cmp .gt (.bf .len (.cons (.v 2) .nil)) (.k (.int 0))) (.bf .max (.cons (.v 2) .nil)) (.k .none)))
  .nil))
def N_reach_for : List Str := ["steps", "weight", "there", "own", "bears"]
def ir_squared : ISs := (.cons (.ret (.op .add (.op .mul (.ix (.v 0) (.k (.int 0))) (.ix (.v 0) (.k (.int 0)))) (.op .mul (.ix (.v 0) (.k (.int 1))) (.ix (.v 0) (.k (.int 1))))))
  .nil)
def N_squared : List Str := ["place"]
def ir_can_lift : ISs := (.cons (.set 4 (.call 1 (.cons (.v 0) (.cons (.v 3) .nil))))
  (.cons (.ret (.bo true (.cons (.isN true (.v 4)) (.cons (.cmp .le (.bf .max2 (.cons (.call 2 (.cons (.v 1) .nil)) (.cons (.call 2 (.cons (.v 2) .nil)) .nil))) (.op .mul (.v 4) (.v 4))) .nil))))
  .nil))
def N_can_lift : List Str := ["steps", "place", "other", "weight", "reach"]
def ir_lifts_in_day : ISs := (.cons (.set 2 (.v 0))
  (.cons (.set 3 (.k (.int 0)))
  (.cons (.wh (.bo true (.cons (.cmp .lt (.v 3) (.bf .len (.cons (.v 1) .nil))) (.cons (.cmp .le (.ix (.v 1) (.v 3)) (.v 2)) .nil))) (.cons (.aug .sub 2 (.ix (.v 1) (.v 3)))
  (.cons (.aug .add 3 (.k (.int 1)))
  .nil)))
  (.cons (.ret (.v 3))
  .nil))))
def N_lifts_in_day : List Str := ["minutes", "works", "left", "many"]
def ir_seen_from : ISs := (.cons (.ret (.tup (.cons (.op .sub (.ix (.v 1) (.k (.int 0))) (.ix (.v 0) (.k (.int 0)))) (.cons (.op .sub (.ix (.v 1) (.k (.int 1))) (.ix (.v 0) (.k (.int 1)))) .nil))))
  .nil)
def N_seen_from : List Str := ["stand", "place"]
def ir_lifted_from : ISs := (.cons (.set 3 (.comp [("place", 4), ("other", 5), ("weight", 6)] (.tup [4, 5, 6]) .seq (.cons (.v 2) .nil) .nil (.tup (.cons (.call 5 (.cons (.v 1) (.cons (.v 4) .nil))) (.cons (.call 5 (.cons (.v 1) (.cons (.v 5) .nil))) (.cons (.v 6) .nil))))))
  (.cons (.ret (.bf .len (.cons (.comp [("place", 4), ("other", 5), ("weight", 6)] (.tup [4, 5, 6]) .seq (.cons (.v 3) .nil) (.cons (.call 3 (.cons (.v 0) (.cons (.v 4) (.cons (.v 5) (.cons (.v 6) .nil))))) .nil) (.k (.int 1))) .nil)))
  .nil))
def N_lifted_from : List Str := ["steps", "stand", "moves", "near", "place", "other", "weight"]
def ir_best_stand : ISs := (.cons (.set 3 (.comp [("stand", 4)] (.one 4) .seq (.cons (.v 1) .nil) .nil (.tup (.cons (.neg (.call 6 (.cons (.v 0) (.cons (.v 4) (.cons (.v 2) .nil))))) (.cons (.v 4) .nil)))))
  (.cons (.ifs (.cmp .eq (.bf .len (.cons (.v 3) .nil)) (.k (.int 0))) (.cons (.ret (.k .none))
  .nil) .nil)
  (.cons (.setT [5, 4] (.bf .min (.cons (.v 3) .nil)))
  (.cons (.ret (.tup (.cons (.v 4) (.cons (.neg (.v 5)) .nil))))
  .nil))))
def N_best_stand : List Str := ["steps", "stands", "moves", "told", "stand", "many"]
def ir_two_cranes : ISs := (.cons (.set 3 (.comp [("reach", 4), ("bears", 5)] (.tup [4, 5]) .seq (.cons (.op .add (.v 0) (.v 1)) .nil) .nil (.v 4)))
  (.cons (.set 6 (.comp [("reach", 4)] (.one 4) .seq (.cons (.v 3) .nil) (.cons (.cmp .ge (.op .add (.call 0 (.cons (.v 0) (.cons (.v 4) .nil))) (.call 0 (.cons (.v 1) (.cons (.v 4) .nil)))) (.v 2)) .nil) (.v 4)))
  (.cons (.ret (.ife (.cmp .gt (.bf .len (.cons (.v 6) .nil)) (.k (.int 0))) (.bf .max (.cons (.v 6) .nil)) (.k .none)))
  .nil)))
def N_two_cranes : List Str := ["one", "other", "weight", "reaches", "reach", "bears", "there"]
def ir__law_draws : ISs := (.cons (.set 2 (.comp [("cell", 3)] (.one 3) .seq (.cons (.v 0) .nil) .nil (.bf .int (.cons (.v 3) .nil))))
  (.cons (.ifs (.cmp .eq (.bf .len (.cons (.v 2) .nil)) (.k (.int 0))) (.cons (.ex (.mut .append 2 (.cons (.k (.int 0)) .nil)))
  .nil) .nil)
  (.cons (.set 4 (.bf .list (.cons (.v 2) .nil)))
  (.cons (.set 5 (.lst .nil))
  (.cons (.fo (.one 6) .rng1 (.cons (.v 1) .nil) (.cons (.set 7 (.op .mod (.v 6) (.bf .len (.cons (.v 2) .nil))))
  (.cons (.ifs (.bo true (.cons (.cmp .ge (.ix (.v 2) (.v 7)) (.op .pow (.k (.int 10)) (.k (.int 18)))) (.cons (.cmp .gt (.ix (.v 4) (.v 7)) (.k (.int 0))) .nil))) (.cons (.ex (.mut .append 5 (.cons (.op .mod (.bf .int (.cons (.ix (.v 4) (.v 7)) .nil)) (.k (.int 1000))) .nil)))
  (.cons (.setI 4 (.v 7) (.op .fdiv (.ix (.v 4) (.v 7)) (.k (.int 1000))))
  .nil)) (.cons (.set 8 (.op .mod (.bf .int (.cons (.op .add (.op .add (.op .mul (.ix (.v 2) (.v 7)) (.k (.int 48271))) (.op .mul (.v 6) (.k (.int 69621)))) (.k (.int 11))) .nil)) (.k (.int 2147483647))))
  (.cons (.ex (.mut .append 5 (.cons (.op .mod (.bf .int (.cons (.op .add (.op .add (.op .mul (.v 8) (.v 8)) (.op .mul (.k (.int 3)) (.v 8))) (.v 6)) .nil)) (.k (.int 1000003))) .nil)))
  .nil)))
  .nil)))
  (.cons (.ex (.mut .reverse 5 .nil))
  (.cons (.ret (.v 5))
  .nil)))))))
def N__law_draws : List Str := ["script", "many", "cells", "cell", "rest", "drawn", "k", "at", "once"]
def ir__law_take : ISs := (.cons (.ifs (.cmp .eq (.bf .len (.cons (.v 0) .nil)) (.k (.int 0))) (.cons (.ret (.k (.int 0)))
  .nil) .nil)
  (.cons (.ret (.op .mod (.bf .int (.cons (.mut .pop 0 .nil) .nil)) (.v 1)))
  .nil))
def N__law_take : List Str := ["draws", "many"]
def ir__law_cell : ISs := (.cons (.ifs (.cmp .eq (.bf .len (.cons (.v 0) .nil)) (.k (.int 0))) (.cons (.ret (.k (.int 0)))
  .nil) .nil)
  (.cons (.set 2 (.bf .int (.cons (.ix (.v 0) (.call 10 (.bor 1 (.cons (.bf .len (.cons (.v 0) .nil)) .nil)))) .nil)))
  (.cons (.ret (.op .mul (.op .mod (.bf .abs (.cons (.v 2) .nil)) (.op .pow (.k (.int 10)) (.k (.int 60)))) (.ix (.lst (.cons (.k (.int 1)) (.cons (.neg (.k (.int 1))) .nil))) (.bf .int (.cons (.cmp .lt (.v 2) (.k (.int 0))) .nil)))))
  .nil)))
def N__law_cell : List Str := ["script", "draws", "cell"]
def N__law_same_0 : List Str := ["actual", "due", "k"]
def ir__law_same_1 : ISs := (.cons (.ifs (.isN false (.v 1)) (.cons (.ret (.isN false (.v 0)))
  .nil) .nil)
  (.cons (.ifs (.bf .isB (.cons (.v 1) .nil)) (.cons (.ret (.bo true (.cons (.bf .isB (.cons (.v 0) .nil)) (.cons (.cmp .eq (.v 0) (.v 1)) .nil))))
  .nil) .nil)
  (.cons (.ifs (.bf .isI (.cons (.v 1) .nil)) (.cons (.ret (.bo true (.cons (.bf .isI (.cons (.v 0) .nil)) (.cons (.nt (.bf .isB (.cons (.v 0) .nil))) (.cons (.cmp .eq (.v 0) (.v 1)) .nil)))))
  .nil) .nil)
  (.cons (.ifs (.bf .isS (.cons (.v 1) .nil)) (.cons (.ret (.bo true (.cons (.bf .isS (.cons (.v 0) .nil)) (.cons (.cmp .eq (.v 0) (.v 1)) .nil))))
  .nil) .nil)
  (.cons (.ifs (.bo false (.cons (.nt (.bf .isT (.cons (.v 0) .nil))) (.cons (.cmp .ne (.bf .len (.cons (.v 0) .nil)) (.bf .len (.cons (.v 1) .nil))) .nil))) (.cons (.ret (.k (.bool false)))
  .nil) .nil)
  (.cons (.fo (.one 2) .rng1 (.cons (.bf .len (.cons (.v 1) .nil)) .nil) (.cons (.ifs (.nt (.call 12 (.cons (.ix (.v 0) (.v 2)) (.cons (.ix (.v 1) (.v 2)) .nil)))) (.cons (.ret (.k (.bool false)))
  .nil) .nil)
  .nil))
  (.cons (.ret (.k (.bool true)))
  .nil)))))))
def N__law_same_1 : List Str := ["actual", "due", "k"]
def ir__law_same_2 : ISs := (.cons (.ifs (.isN false (.v 1)) (.cons (.ret (.isN false (.v 0)))
  .nil) .nil)
  (.cons (.ifs (.bf .isB (.cons (.v 1) .nil)) (.cons (.ret (.bo true (.cons (.bf .isB (.cons (.v 0) .nil)) (.cons (.cmp .eq (.v 0) (.v 1)) .nil))))
  .nil) .nil)
  (.cons (.ifs (.bf .isI (.cons (.v 1) .nil)) (.cons (.ret (.bo true (.cons (.bf .isI (.cons (.v 0) .nil)) (.cons (.nt (.bf .isB (.cons (.v 0) .nil))) (.cons (.cmp .eq (.v 0) (.v 1)) .nil)))))
  .nil) .nil)
  (.cons (.ifs (.bf .isS (.cons (.v 1) .nil)) (.cons (.ret (.bo true (.cons (.bf .isS (.cons (.v 0) .nil)) (.cons (.cmp .eq (.v 0) (.v 1)) .nil))))
  .nil) .nil)
  (.cons (.ifs (.bo false (.cons (.nt (.bf .isT (.cons (.v 0) .nil))) (.cons (.cmp .ne (.bf .len (.cons (.v 0) .nil)) (.bf .len (.cons (.v 1) .nil))) .nil))) (.cons (.ret (.k (.bool false)))
  .nil) .nil)
  (.cons (.fo (.one 2) .rng1 (.cons (.bf .len (.cons (.v 1) .nil)) .nil) (.cons (.ifs (.nt (.call 13 (.cons (.ix (.v 0) (.v 2)) (.cons (.ix (.v 1) (.v 2)) .nil)))) (.cons (.ret (.k (.bool false)))
  .nil) .nil)
  .nil))
  (.cons (.ret (.k (.bool true)))
  .nil)))))))
def N__law_same_2 : List Str := ["actual", "due", "k"]
def ir__law_same_3 : ISs := (.cons (.ifs (.isN false (.v 1)) (.cons (.ret (.isN false (.v 0)))
  .nil) .nil)
  (.cons (.ifs (.bf .isB (.cons (.v 1) .nil)) (.cons (.ret (.bo true (.cons (.bf .isB (.cons (.v 0) .nil)) (.cons (.cmp .eq (.v 0) (.v 1)) .nil))))
  .nil) .nil)
  (.cons (.ifs (.bf .isI (.cons (.v 1) .nil)) (.cons (.ret (.bo true (.cons (.bf .isI (.cons (.v 0) .nil)) (.cons (.nt (.bf .isB (.cons (.v 0) .nil))) (.cons (.cmp .eq (.v 0) (.v 1)) .nil)))))
  .nil) .nil)
  (.cons (.ifs (.bf .isS (.cons (.v 1) .nil)) (.cons (.ret (.bo true (.cons (.bf .isS (.cons (.v 0) .nil)) (.cons (.cmp .eq (.v 0) (.v 1)) .nil))))
  .nil) .nil)
  (.cons (.ifs (.bo false (.cons (.nt (.bf .isT (.cons (.v 0) .nil))) (.cons (.cmp .ne (.bf .len (.cons (.v 0) .nil)) (.bf .len (.cons (.v 1) .nil))) .nil))) (.cons (.ret (.k (.bool false)))
  .nil) .nil)
  (.cons (.fo (.one 2) .rng1 (.cons (.bf .len (.cons (.v 1) .nil)) .nil) (.cons (.ifs (.nt (.call 14 (.cons (.ix (.v 0) (.v 2)) (.cons (.ix (.v 1) (.v 2)) .nil)))) (.cons (.ret (.k (.bool false)))
  .nil) .nil)
  .nil))
  (.cons (.ret (.k (.bool true)))
  .nil)))))))
def N__law_same_3 : List Str := ["actual", "due", "k"]
def ir__law_same_4 : ISs := (.cons (.ifs (.isN false (.v 1)) (.cons (.ret (.isN false (.v 0)))
  .nil) .nil)
  (.cons (.ifs (.bf .isB (.cons (.v 1) .nil)) (.cons (.ret (.bo true (.cons (.bf .isB (.cons (.v 0) .nil)) (.cons (.cmp .eq (.v 0) (.v 1)) .nil))))
  .nil) .nil)
  (.cons (.ifs (.bf .isI (.cons (.v 1) .nil)) (.cons (.ret (.bo true (.cons (.bf .isI (.cons (.v 0) .nil)) (.cons (.nt (.bf .isB (.cons (.v 0) .nil))) (.cons (.cmp .eq (.v 0) (.v 1)) .nil)))))
  .nil) .nil)
  (.cons (.ifs (.bf .isS (.cons (.v 1) .nil)) (.cons (.ret (.bo true (.cons (.bf .isS (.cons (.v 0) .nil)) (.cons (.cmp .eq (.v 0) (.v 1)) .nil))))
  .nil) .nil)
  (.cons (.ifs (.bo false (.cons (.nt (.bf .isT (.cons (.v 0) .nil))) (.cons (.cmp .ne (.bf .len (.cons (.v 0) .nil)) (.bf .len (.cons (.v 1) .nil))) .nil))) (.cons (.ret (.k (.bool false)))
  .nil) .nil)
  (.cons (.fo (.one 2) .rng1 (.cons (.bf .len (.cons (.v 1) .nil)) .nil) (.cons (.ifs (.nt (.call 15 (.cons (.ix (.v 0) (.v 2)) (.cons (.ix (.v 1) (.v 2)) .nil)))) (.cons (.ret (.k (.bool false)))
  .nil) .nil)
  .nil))
  (.cons (.ret (.k (.bool true)))
  .nil)))))))
def N__law_same_4 : List Str := ["actual", "due", "k"]
def ir__law_steps : ISs := (.cons (.set 2 (.lst .nil))
  (.cons (.par [3, 4] (.cons (.call 10 (.bor 0 (.cons (.k (.int 4)) .nil))) (.cons (.op .add (.k (.int 5)) (.call 10 (.bor 0 (.cons (.k (.int 30)) .nil)))) .nil)))
  (.cons (.fo (.one 5) .rng1 (.cons (.call 10 (.bor 0 (.cons (.op .add (.v 1) (.k (.int 1))) .nil))) .nil) (.cons (.ifs (.cmp .ge (.v 4) (.k (.int 0))) (.cons (.ex (.mut .append 2 (.cons (.tup (.cons (.v 3) (.cons (.v 4) .nil))) .nil)))
  .nil) .nil)
  (.cons (.par [3, 4] (.cons (.op .add (.op .add (.v 3) (.k (.int 1))) (.call 10 (.bor 0 (.cons (.k (.int 4)) .nil)))) (.cons (.op .sub (.op .sub (.v 4) (.k (.int 1))) (.call 10 (.bor 0 (.cons (.k (.int 8)) .nil)))) .nil)))
  .nil)))
  (.cons (.ret (.bf .tuple (.cons (.v 2) .nil)))
  .nil))))
def N__law_steps : List Str := ["draws", "most", "found", "reach", "bears", "k"]
def ir__law_bears : ISs := (.cons (.ret (.ix (.op .add (.comp [("step", 2)] (.one 2) .seq (.cons (.v 0) .nil) (.cons (.cmp .ge (.ix (.v 2) (.k (.int 0))) (.v 1)) .nil) (.ix (.v 2) (.k (.int 1)))) (.lst (.cons (.k (.int 0)) .nil))) (.k (.int 0))))
  .nil)
def N__law_bears : List Str := ["steps", "reach", "step"]
def ir__law_reach : ISs := (.cons (.ret (.ix (.op .add (.lst (.cons (.k .none) .nil)) (.comp [("step", 2)] (.one 2) .seq (.cons (.v 0) .nil) (.cons (.cmp .ge (.ix (.v 2) (.k (.int 1))) (.v 1)) .nil) (.ix (.v 2) (.k (.int 0))))) (.neg (.k (.int 1)))))
  .nil)
def N__law_reach : List Str := ["steps", "weight", "step"]
def ir__law_can : ISs := (.cons (.set 4 (.bf .max (.cons (.comp [("x", 5), ("y", 6)] (.tup [5, 6]) .seq (.cons (.lst (.cons (.v 1) (.cons (.v 2) .nil))) .nil) .nil (.op .add (.op .mul (.v 5) (.v 5)) (.op .mul (.v 6) (.v 6)))) .nil)))
  (.cons (.ret (.cmp .gt (.bf .len (.cons (.comp [("step", 7)] (.one 7) .seq (.cons (.v 0) .nil) (.cons (.bo true (.cons (.cmp .ge (.ix (.v 7) (.k (.int 1))) (.v 3)) (.cons (.cmp .ge (.op .mul (.ix (.v 7) (.k (.int 0))) (.ix (.v 7) (.k (.int 0)))) (.v 4)) .nil))) .nil) (.v 7)) .nil)) (.k (.int 0))))
  .nil))
def N__law_can : List Str := ["steps", "place", "other", "weight", "far", "x", "y", "step"]
def ir__law_is_told : ISs := (.cons (.fo (.one 3) .rng1 (.cons (.k (.int 30)) .nil) (.cons (.ifs (.nt (.call 16 (.cons (.call 0 (.cons (.v 1) (.cons (.v 3) .nil))) (.cons (.call 18 (.cons (.v 1) (.cons (.v 3) .nil))) .nil)))) (.cons (.ret (.k (.bool false)))
  .nil) .nil)
  .nil))
  (.cons (.fo (.one 4) .seq (.cons (.op .add (.op .add (.lst (.cons (.v 2) (.cons (.k (.int 0)) .nil))) (.comp [("step", 5)] (.one 5) .seq (.cons (.v 1) .nil) .nil (.ix (.v 5) (.k (.int 1))))) (.comp [("step", 5)] (.one 5) .seq (.cons (.v 1) .nil) .nil (.op .add (.ix (.v 5) (.k (.int 1))) (.k (.int 1))))) .nil) (.cons (.set 3 (.call 19 (.cons (.v 1) (.cons (.v 4) .nil))))
  (.cons (.ifs (.nt (.call 16 (.cons (.call 1 (.cons (.v 1) (.cons (.v 4) .nil))) (.cons (.v 3) .nil)))) (.cons (.ret (.k (.bool false)))
  .nil) .nil)
  (.cons (.fo (.one 6) .seq (.cons (.op .add (.lst (.cons (.k (.int 0)) (.cons (.k (.int 3)) (.cons (.k (.int 5)) .nil)))) (.comp [("step", 5)] (.one 5) .seq (.cons (.v 1) .nil) .nil (.ix (.v 5) (.k (.int 0))))) .nil) (.cons (.par [7, 8] (.cons (.ix (.lst (.cons (.tup (.cons (.v 6) (.cons (.k (.int 0)) .nil))) (.cons (.tup (.cons (.k (.int 0)) (.cons (.op .sub (.k (.int 0)) (.v 6)) .nil))) .nil))) (.call 10 (.bor 0 (.cons (.k (.int 2)) .nil)))) (.cons (.ix (.lst (.cons (.tup (.cons (.k (.int 3)) (.cons (.k (.int 4)) .nil))) (.cons (.tup (.cons (.k (.int 0)) (.cons (.k (.int 0)) .nil))) (.cons (.tup (.cons (.op .sub (.k (.int 0)) (.v 6)) (.cons (.k (.int 0)) .nil))) (.cons (.tup (.cons (.v 6) (.cons (.k (.int 1)) .nil))) .nil))))) (.call 10 (.bor 0 (.cons (.k (.int 4)) .nil)))) .nil)))
  (.cons (.ifs (.bo false (.cons (.nt (.call 16 (.cons (.call 3 (.cons (.v 1) (.cons (.v 7) (.cons (.v 8) (.cons (.v 4) .nil))))) (.cons (.call 20 (.cons (.v 1) (.cons (.v 7) (.cons (.v 8) (.cons (.v 4) .nil))))) .nil)))) (.cons (.nt (.call 16 (.cons (.call 3 (.cons (.v 1) (.cons (.v 8) (.cons (.v 7) (.cons (.v 4) .nil))))) (.cons (.call 20 (.cons (.v 1) (.cons (.v 8) (.cons (.v 7) (.cons (.v 4) .nil))))) .nil)))) .nil))) (.cons (.ret (.k (.bool false)))
  .nil) .nil)
  .nil)))
  .nil))))
  (.cons (.ret (.k (.bool true)))
  .nil)))
def N__law_is_told : List Str := ["draws", "steps", "weight", "reach", "own", "step", "far", "place", "other"]
def ir__law_is_stand_right : ISs := (.cons (.set 3 (.lst .nil))
  (.cons (.fo (.tup [4, 5]) .seq (.cons (.v 1) .nil) (.cons (.set 6 (.k (.int 0)))
  (.cons (.fo (.tup [7, 8, 9]) .seq (.cons (.v 2) .nil) (.cons (.set 6 (.op .add (.v 6) (.bf .int (.cons (.call 20 (.cons (.v 0) (.cons (.tup (.cons (.op .sub (.ix (.v 7) (.k (.int 0))) (.v 4)) (.cons (.op .sub (.ix (.v 7) (.k (.int 1))) (.v 5)) .nil))) (.cons (.tup (.cons (.op .sub (.ix (.v 8) (.k (.int 0))) (.v 4)) (.cons (.op .sub (.ix (.v 8) (.k (.int 1))) (.v 5)) .nil))) (.cons (.v 9) .nil))))) .nil))))
  .nil))
  (.cons (.ex (.mut .append 3 (.cons (.tup (.cons (.op .sub (.k (.int 0)) (.v 6)) (.cons (.tup (.cons (.v 4) (.cons (.v 5) .nil))) .nil))) .nil)))
  .nil))))
  (.cons (.ifs (.cmp .eq (.bf .len (.cons (.v 3) .nil)) (.k (.int 0))) (.cons (.ret (.isN false (.call 7 (.cons (.v 0) (.cons (.v 1) (.cons (.v 2) .nil))))))
  .nil) .nil)
  (.cons (.ret (.call 16 (.cons (.call 7 (.cons (.v 0) (.cons (.v 1) (.cons (.v 2) .nil)))) (.cons (.tup (.cons (.ix (.bf .min (.cons (.v 3) .nil)) (.k (.int 1))) (.cons (.op .sub (.k (.int 0)) (.ix (.bf .min (.cons (.v 3) .nil)) (.k (.int 0)))) .nil))) .nil))))
  .nil))))
def N__law_is_stand_right : List Str := ["steps", "stands", "moves", "told", "x", "y", "many", "place", "other", "weight"]
def ir_law : ISs := (.cons (.set 1 (.call 9 (.cons (.v 0) (.cons (.k (.int 300)) .nil))))
  (.cons (.set 2 (.ix (.lst (.cons (.k (.int 1)) (.cons (.k (.int 1)) (.cons (.op .add (.k (.int 1)) (.op .mod (.bf .abs (.cons (.call 11 (.cons (.v 0) (.bor 1 .nil))) .nil)) (.op .pow (.k (.int 10)) (.k (.int 20))))) .nil)))) (.call 10 (.bor 1 (.cons (.k (.int 3)) .nil)))))
  (.cons (.set 3 (.bf .tuple (.cons (.comp [("reach", 4), ("bears", 5)] (.tup [4, 5]) .seq (.cons (.call 17 (.bor 1 (.cons (.k (.int 6)) .nil))) .nil) .nil (.tup (.cons (.v 4) (.cons (.op .mul (.v 5) (.v 2)) .nil)))) .nil)))
  (.cons (.set 6 (.bf .tuple (.cons (.comp [("reach", 4), ("bears", 5)] (.tup [4, 5]) .seq (.cons (.call 17 (.bor 1 (.cons (.k (.int 6)) .nil))) .nil) .nil (.tup (.cons (.v 4) (.cons (.op .mul (.v 5) (.v 2)) .nil)))) .nil)))
  (.cons (.set 7 (.op .add (.op .mul (.call 10 (.bor 1 (.cons (.k (.int 50)) .nil))) (.v 2)) (.call 10 (.bor 1 (.cons (.k (.int 2)) .nil)))))
  (.cons (.ifs (.nt (.call 21 (.bor 1 (.cons (.v 3) (.cons (.v 7) .nil))))) (.cons (.ret (.k (.bool false)))
  .nil) .nil)
  (.cons (.set 8 (.bf .sortedSet (.cons (.comp [("step", 9)] (.one 9) .seq (.cons (.op .add (.v 3) (.v 6)) .nil) .nil (.ix (.v 9) (.k (.int 0)))) .nil)))
  (.cons (.set 10 (.comp [("reach", 4)] (.one 4) .seq (.cons (.v 8) .nil) (.cons (.cmp .ge (.op .add (.call 18 (.cons (.v 3) (.cons (.v 4) .nil))) (.call 18 (.cons (.v 6) (.cons (.v 4) .nil)))) (.v 7)) .nil) (.v 4)))
  (.cons (.ifs (.bo false (.cons (.nt (.call 16 (.cons (.call 8 (.cons (.v 3) (.cons (.v 6) (.cons (.v 7) .nil)))) (.cons (.ix (.op .add (.lst (.cons (.k .none) .nil)) (.v 10)) (.neg (.k (.int 1)))) .nil)))) (.cons (.nt (.call 16 (.cons (.call 8 (.cons (.v 6) (.cons (.v 3) (.cons (.v 7) .nil)))) (.cons (.ix (.op .add (.lst (.cons (.k .none) .nil)) (.v 10)) (.neg (.k (.int 1)))) .nil)))) .nil))) (.cons (.ret (.k (.bool false)))
  .nil) .nil)
  (.cons (.set 11 (.lst .nil))
  (.cons (.fo (.one 12) .rng1 (.cons (.call 10 (.bor 1 (.cons (.k (.int 7)) .nil))) .nil) (.cons (.ex (.mut .append 11 (.cons (.tup (.cons (.tup (.cons (.op .sub (.call 10 (.bor 1 (.cons (.k (.int 20)) .nil))) (.k (.int 10))) (.cons (.op .sub (.call 10 (.bor 1 (.cons (.k (.int 20)) .nil))) (.k (.int 10))) .nil))) (.cons (.tup (.cons (.op .sub (.call 10 (.bor 1 (.cons (.k (.int 20)) .nil))) (.k (.int 10))) (.cons (.op .sub (.call 10 (.bor 1 (.cons (.k (.int 12)) .nil))) (.k (.int 6))) .nil))) (.cons (.op .mul (.call 10 (.bor 1 (.cons (.k (.int 40)) .nil))) (.v 2)) .nil)))) .nil)))
  .nil))
  (.cons (.set 13 (.bf .tuple (.cons (.comp [("k", 12)] (.one 12) .rng1 (.cons (.call 10 (.bor 1 (.cons (.k (.int 6)) .nil))) .nil) .nil (.tup (.cons (.op .sub (.call 10 (.bor 1 (.cons (.k (.int 9)) .nil))) (.k (.int 4))) (.cons (.op .sub (.call 10 (.bor 1 (.cons (.k (.int 9)) .nil))) (.k (.int 4))) .nil)))) .nil)))
  (.cons (.ifs (.nt (.call 22 (.cons (.v 3) (.cons (.v 13) (.cons (.bf .tuple (.cons (.v 11) .nil)) .nil))))) (.cons (.ret (.k (.bool false)))
  .nil) .nil)
  (.cons (.par [14, 15] (.cons (.bf .tuple (.cons (.comp [("k", 12)] (.one 12) .rng1 (.cons (.call 10 (.bor 1 (.cons (.k (.int 9)) .nil))) .nil) .nil (.call 10 (.bor 1 (.cons (.k (.int 60)) .nil)))) .nil)) (.cons (.call 10 (.bor 1 (.cons (.k (.int 200)) .nil))) .nil)))
  (.cons (.set 16 (.comp [("many", 17)] (.one 17) .rng1 (.cons (.op .add (.bf .len (.cons (.v 14) .nil)) (.k (.int 1))) .nil) (.cons (.cmp .le (.bf .sum (.cons (.sl (.v 14) .nil (.cons (.v 17) .nil)) .nil)) (.v 15)) .nil) (.v 17)))
  (.cons (.ifs (.nt (.call 16 (.cons (.call 4 (.cons (.v 15) (.cons (.v 14) .nil))) (.cons (.ix (.v 16) (.neg (.k (.int 1)))) .nil)))) (.cons (.ret (.k (.bool false)))
  .nil) .nil)
  (.cons (.set 18 (.tup (.cons (.tup (.cons (.k (.int 5)) (.cons (.k (.int 20)) .nil))) (.cons (.tup (.cons (.k (.int 8)) (.cons (.k (.int 12)) .nil))) (.cons (.tup (.cons (.k (.int 13)) (.cons (.k (.int 3)) .nil))) .nil)))))
  (.cons (.ifs (.bo false (.cons (.nt (.call 16 (.cons (.call 0 (.cons (.v 18) (.cons (.k (.int 5)) .nil))) (.cons (.k (.int 20)) .nil)))) (.cons (.nt (.call 16 (.cons (.call 0 (.cons (.v 18) (.cons (.k (.int 6)) .nil))) (.cons (.k (.int 12)) .nil)))) (.cons (.nt (.call 16 (.cons (.call 0 (.cons (.v 18) (.cons (.k (.int 14)) .nil))) (.cons (.k (.int 0)) .nil)))) (.cons (.nt (.call 16 (.cons (.call 1 (.cons (.v 18) (.cons (.k (.int 12)) .nil))) (.cons (.k (.int 8)) .nil)))) (.cons (.isN true (.call 1 (.cons (.v 18) (.cons (.k (.int 21)) .nil)))) .nil)))))) (.cons (.ret (.k (.bool false)))
  .nil) .nil)
  (.cons (.ifs (.bo false (.cons (.nt (.call 16 (.cons (.call 3 (.cons (.v 18) (.cons (.tup (.cons (.k (.int 3)) (.cons (.k (.int 4)) .nil))) (.cons (.tup (.cons (.k (.int 0)) (.cons (.k (.int 5)) .nil))) (.cons (.k (.int 20)) .nil))))) (.cons (.k (.bool true)) .nil)))) (.cons (.nt (.call 16 (.cons (.call 3 (.cons (.v 18) (.cons (.tup (.cons (.k (.int 3)) (.cons (.k (.int 4)) .nil))) (.cons (.tup (.cons (.k (.int 4)) (.cons (.k (.int 4)) .nil))) (.cons (.k (.int 20)) .nil))))) (.cons (.k (.bool false)) .nil)))) (.cons (.nt (.call 16 (.cons (.call 3 (.cons (.v 18) (.cons (.tup (.cons (.k (.int 6)) (.cons (.k (.int 6)) .nil))) (.cons (.tup (.cons (.k (.int 0)) (.cons (.k (.int 0)) .nil))) (.cons (.k (.int 12)) .nil))))) (.cons (.k (.bool false)) .nil)))) .nil)))) (.cons (.ret (.k (.bool false)))
  .nil) .nil)
  (.cons (.ifs (.bo false (.cons (.nt (.call 16 (.cons (.call 8 (.cons (.v 18) (.cons (.tup (.cons (.tup (.cons (.k (.int 6)) (.cons (.k (.int 10)) .nil))) (.cons (.tup (.cons (.k (.int 9)) (.cons (.k (.int 4)) .nil))) .nil))) (.cons (.k (.int 16)) .nil)))) (.cons (.k (.int 8)) .nil)))) (.cons (.nt (.call 16 (.cons (.call 4 (.cons (.k (.int 60)) (.cons (.tup (.cons (.k (.int 30)) (.cons (.k (.int 30)) (.cons (.k (.int 1)) .nil)))) .nil))) (.cons (.k (.int 2)) .nil)))) (.cons (.nt (.call 16 (.cons (.call 4 (.cons (.k (.int 60)) (.cons (.tup (.cons (.k (.int 50)) (.cons (.k (.int 20)) (.cons (.k (.int 10)) .nil)))) .nil))) (.cons (.k (.int 1)) .nil)))) .nil)))) (.cons (.ret (.k (.bool false)))
  .nil) .nil)
  (.cons (.set 19 (.tup (.cons (.tup (.cons (.tup (.cons (.k (.int 0)) (.cons (.k (.int 0)) .nil))) (.cons (.tup (.cons (.k (.int 5)) (.cons (.k (.int 0)) .nil))) (.cons (.k (.int 20)) .nil)))) (.cons (.tup (.cons (.tup (.cons (.k (.int 10)) (.cons (.k (.int 0)) .nil))) (.cons (.tup (.cons (.k (.int 12)) (.cons (.k (.int 0)) .nil))) (.cons (.k (.int 12)) .nil)))) (.cons (.tup (.cons (.tup (.cons (.k (.int 0)) (.cons (.k (.int 9)) .nil))) (.cons (.tup (.cons (.k (.int 0)) (.cons (.k (.int 0)) .nil))) (.cons (.k (.int 3)) .nil)))) .nil)))))
  (.cons (.ret (.bo true (.cons (.call 22 (.cons (.v 18) (.cons (.tup (.cons (.tup (.cons (.k (.int 4)) (.cons (.k (.int 0)) .nil))) (.cons (.tup (.cons (.k (.int 2)) (.cons (.k (.int 0)) .nil))) (.cons (.tup (.cons (.k (.int 40)) (.cons (.k (.int 40)) .nil))) .nil)))) (.cons (.v 19) .nil)))) (.cons (.call 16 (.cons (.call 7 (.cons (.v 18) (.cons (.tup (.cons (.tup (.cons (.k (.int 4)) (.cons (.k (.int 0)) .nil))) (.cons (.tup (.cons (.k (.int 2)) (.cons (.k (.int 0)) .nil))) (.cons (.tup (.cons (.k (.int 40)) (.cons (.k (.int 40)) .nil))) .nil)))) (.cons (.v 19) .nil)))) (.cons (.tup (.cons (.tup (.cons (.k (.int 4)) (.cons (.k (.int 0)) .nil))) (.cons (.k (.int 3)) .nil))) .nil))) (.cons (.call 21 (.bor 1 (.cons (.v 18) (.cons (.k (.int 7)) .nil)))) .nil)))))
  .nil))))))))))))))))))))))
def N_law : List Str := ["script", "draws", "scale", "steps", "reach", "bears", "other", "weight", "reaches", "step", "both", "moves", "k", "stands", "works", "minutes", "fit", "many", "few", "held"]
abbrev top : List Stmt := PySem.Challenge.pw_boatsout_k60_cranes_and_their_reach.main.body
def D : List Ent := [
  ⟨1, "bears_at", ["steps", "reach"], N_bears_at, ir_bears_at, false⟩,
  ⟨2, "reach_for", ["steps", "weight"], N_reach_for, ir_reach_for, false⟩,
  ⟨3, "squared", ["place"], N_squared, ir_squared, false⟩,
  ⟨4, "can_lift", ["steps", "place", "other", "weight"], N_can_lift, ir_can_lift, false⟩,
  ⟨5, "lifts_in_day", ["minutes", "works"], N_lifts_in_day, ir_lifts_in_day, false⟩,
  ⟨6, "seen_from", ["stand", "place"], N_seen_from, ir_seen_from, false⟩,
  ⟨7, "lifted_from", ["steps", "stand", "moves"], N_lifted_from, ir_lifted_from, false⟩,
  ⟨8, "best_stand", ["steps", "stands", "moves"], N_best_stand, ir_best_stand, false⟩,
  ⟨9, "two_cranes", ["one", "other", "weight"], N_two_cranes, ir_two_cranes, false⟩,
  ⟨11, "_law_draws", ["script", "many"], N__law_draws, ir__law_draws, false⟩,
  ⟨12, "_law_take", ["draws", "many"], N__law_take, ir__law_take, false⟩,
  ⟨13, "_law_cell", ["script", "draws"], N__law_cell, ir__law_cell, false⟩,
  ⟨14, "_law_same", ["actual", "due"], [], .nil, true⟩,
  ⟨14, "_law_same", ["actual", "due"], N__law_same_1, ir__law_same_1, false⟩,
  ⟨14, "_law_same", ["actual", "due"], N__law_same_2, ir__law_same_2, false⟩,
  ⟨14, "_law_same", ["actual", "due"], N__law_same_3, ir__law_same_3, false⟩,
  ⟨14, "_law_same", ["actual", "due"], N__law_same_4, ir__law_same_4, false⟩,
  ⟨15, "_law_steps", ["draws", "most"], N__law_steps, ir__law_steps, false⟩,
  ⟨16, "_law_bears", ["steps", "reach"], N__law_bears, ir__law_bears, false⟩,
  ⟨17, "_law_reach", ["steps", "weight"], N__law_reach, ir__law_reach, false⟩,
  ⟨18, "_law_can", ["steps", "place", "other", "weight"], N__law_can, ir__law_can, false⟩,
  ⟨19, "_law_is_told", ["draws", "steps", "weight"], N__law_is_told, ir__law_is_told, false⟩,
  ⟨20, "_law_is_stand_right", ["steps", "stands", "moves"], N__law_is_stand_right, ir__law_is_stand_right, false⟩,
  ⟨21, "law", ["script"], N_law, ir_law, false⟩]
def G : List (Str × PyData) := []
theorem ok : okAll top G [] D = true := by decide +kernel
end K60

set_option Elab.async false
set_option linter.all false
set_option maxRecDepth 100000
set_option maxHeartbeats 4000000
namespace K60
open PySem L2 Bo
/-! ### data -/
abbrev P2 := Int × Int
def eP (p : P2) : PyData := .tuple [.int p.1, .int p.2]
def eS (l : List P2) : PyData := .tuple (l.map eP)
abbrev Mv := P2 × P2 × Int
def eM (m : Mv) : PyData := .tuple [eP m.1, eP m.2.1, .int m.2.2]
def eMs (l : List Mv) : PyData := .tuple (l.map eM)
def eO : Option Int → PyData
  | none => .none
  | some i => .int i
/-! ### what is computed -/
def bearsAt : List P2 → Int → Int
  | [], _ => 0
  | p :: r, reach => if reach ≤ p.1 then p.2 else bearsAt r reach
def reachL (st : List P2) (w : Int) : List Int := st.filterMap fun p => if w ≤ p.2 then some p.1 else none
def maxO (l : List Int) : Option Int := if l = [] then none else some (maxI l)
def reachFor (st : List P2) (w : Int) : Option Int := maxO (reachL st w)
def sq (p : P2) : Int := p.1 * p.1 + p.2 * p.2
def canLift (st : List P2) (p q : P2) (w : Int) : Bool := match reachFor st w with
  | none => false
  | some r => decide ((if sq q > sq p then sq q else sq p) ≤ r * r)
def lifts : Int → List Int → Int
  | _, [] => 0
  | m, w :: r => if w ≤ m then 1 + lifts (m - w) r else 0
def seen (s p : P2) : P2 := (p.1 - s.1, p.2 - s.2)
def lifted (st : List P2) (s : P2) (ms : List Mv) : List Mv := ms.filter fun m => canLift st (seen s m.1) (seen s m.2.1) m.2.2
def told (st : List P2) (stands : List P2) (ms : List Mv) : List PyData := stands.map fun s => .tuple [.int (-((lifted st s ms).length : Nat)), eP s]
def turnB : PyData → PyData
  | .tuple [.int a, s] => .tuple [s, .int (-a)]
  | _ => .none
def best (st : List P2) (stands : List P2) (ms : List Mv) : PyData := match told st stands ms with
  | [] => .none
  | x :: r => turnB (W.minD x r)
def twoL (a b : List P2) (w : Int) : List Int := (a ++ b).filterMap fun p => if w ≤ bearsAt a p.1 + bearsAt b p.1 then some p.1 else none
def Sm (i : Int) : Prop := -(2 ^ 30) < i ∧ i < 2 ^ 30
def Sm2 (i : Int) : Prop := -(2 ^ 40) < i ∧ i < 2 ^ 40
def SmP (p : P2) : Prop := Sm2 p.1 ∧ Sm2 p.2
def Good (st : List P2) : Prop := (st.Pairwise fun a b => a.1 < b.1) ∧ (∀ p ∈ st, 0 ≤ p.1 ∧ p.1 < 2 ^ 20) ∧ st.length ≤ 8
def GoodM (ms : List Mv) : Prop := (∀ m ∈ ms, (Sm m.1.1 ∧ Sm m.1.2) ∧ Sm m.2.1.1 ∧ Sm m.2.1.2) ∧ ms.length ≤ 1000
def GoodP (ps : List P2) : Prop := (∀ p ∈ ps, Sm p.1 ∧ Sm p.2) ∧ ps.length ≤ 1000
/-! ### contracts -/
def ctBears : Ct := fun es K => ∃ st w, es = [.val (eS st), .val (.int w)] ∧ K (.val (.int (bearsAt st w))) []
def ctReach : Ct := fun es K => ∃ st w, es = [.val (eS st), .val (.int w)] ∧ K (.val (eO (reachFor st w))) []
def ctSq : Ct := fun es K => ∃ p, es = [.val (eP p)] ∧ SmP p ∧ K (.val (.int (sq p))) []
def ctCan : Ct := fun es K => ∃ st p q w, es = [.val (eS st), .val (eP p), .val (eP q), .val (.int w)] ∧ (Good st ∧ SmP p ∧ SmP q) ∧ K (.val (.bool (canLift st p q w))) []
def ctLifts : Ct := fun es K => ∃ m ws, es = [.val (.int m), .val (.tuple (List.map PyData.int ws))] ∧ K (.val (.int (lifts m ws))) []
def ctSeen : Ct := fun es K => ∃ s p, es = [.val (eP s), .val (eP p)] ∧ K (.val (eP (seen s p))) []
def ctLifted : Ct := fun es K => ∃ st s ms, es = [.val (eS st), .val (eP s), .val (eMs ms)] ∧ (Good st ∧ (Sm s.1 ∧ Sm s.2) ∧ GoodM ms) ∧ K (.val (.int ((lifted st s ms).length : Nat))) []
def ctBest : Ct := fun es K => ∃ st ss ms, es = [.val (eS st), .val (eS ss), .val (eMs ms)] ∧ (Good st ∧ GoodP ss ∧ GoodM ms) ∧ K (.val (best st ss ms)) []
def ctTwo : Ct := fun es K => ∃ a b w, es = [.val (eS a), .val (eS b), .val (.int w)] ∧ (Good a ∧ Good b) ∧ K (.val (eO (maxO (twoL a b w)))) []
def ctSteps : Ct := fun es K => ∃ l m, es = [.bor (intO l), .val (.int m)] ∧ (0 ≤ m ∧ m ≤ 7) ∧ ∀ st l', Good st → (∀ p ∈ st, 0 ≤ p.2 ∧ p.2 ≤ 40) → K (.val (eS st)) [intO l']
def ctLBears : Ct := fun es K => ∃ st w, es = [.val (eS st), .val (.int w)] ∧ Good st ∧ K (.val (.int (bearsAt st w))) []
def ctLReach : Ct := fun es K => ∃ st w, es = [.val (eS st), .val (.int w)] ∧ Good st ∧ K (.val (eO (reachFor st w))) []
def ctTold : Ct := fun es K => ∃ l st w, es = [.bor (intO l), .val (eS st), .val (.int w)] ∧ Good st ∧ ∀ l', K (vB true) [intO l']
def ctStand : Ct := fun es K => ∃ st ss ms, es = [.val (eS st), .val (eS ss), .val (eMs ms)] ∧ (Good st ∧ GoodP ss ∧ GoodM ms) ∧ K (vB true) []
def cts : List Ct := [ctBears, ctReach, ctSq, ctCan, ctLifts, ctSeen, ctLifted, ctBest, ctTwo, ctDraws, ctTake, ctCell, ctSame 0, ctSame 1, ctSame 2, ctSame 3, ctSame 4, ctSteps, ctLBears, ctLReach, ctCan, ctTold, ctStand, lawCt]
def Γ : Nat → Ct := fun j => cts.getD j fun _ _ => False
section
variable {es : List En} {K : Rs → List Ob → Prop}
theorem g0 : Γ 0 es K = ctBears es K := rfl
theorem g1 : Γ 1 es K = ctReach es K := rfl
theorem g2 : Γ 2 es K = ctSq es K := rfl
theorem g3 : Γ 3 es K = ctCan es K := rfl
theorem g4 : Γ 4 es K = ctLifts es K := rfl
theorem g5 : Γ 5 es K = ctSeen es K := rfl
theorem g6 : Γ 6 es K = ctLifted es K := rfl
theorem g7 : Γ 7 es K = ctBest es K := rfl
theorem g8 : Γ 8 es K = ctTwo es K := rfl
theorem g9 : Γ 9 es K = ctDraws es K := rfl
theorem g10 : Γ 10 es K = ctTake es K := rfl
theorem g11 : Γ 11 es K = ctCell es K := rfl
theorem g13 : Γ 13 es K = ctSame 1 es K := rfl
theorem g14 : Γ 14 es K = ctSame 2 es K := rfl
theorem g15 : Γ 15 es K = ctSame 3 es K := rfl
theorem g16 : Γ 16 es K = ctSame 4 es K := rfl
theorem g17 : Γ 17 es K = ctSteps es K := rfl
theorem g18 : Γ 18 es K = ctLBears es K := rfl
theorem g19 : Γ 19 es K = ctLReach es K := rfl
theorem g20 : Γ 20 es K = ctCan es K := rfl
theorem g21 : Γ 21 es K = ctTold es K := rfl
theorem g22 : Γ 22 es K = ctStand es K := rfl
theorem g23 : Γ 23 es K = lawCt es K := rfl
end
/-! ### the program's defs -/
theorem s_bears {es : List En} {K : Rs → List Ob → Prop} (h : ctBears es K) : bodyCt Γ 4 ir_bears_at es K := by
  obtain ⟨st, reach, rfl, h⟩ := h
  unfold eS ir_bears_at
  simp only [bodyCt, wE_v, wE_g, wE_k, wE_op, wE_neg, wE_cmp, wE_isN, wE_ch, wE_nt, wE_bo, wE_ife, wE_tup, wE_lst, wE_dnew, wE_ix, wE_sl, wE_call, wE_bf, wE_mut, wE_comp, onEn_val, onEn_own, onEn_bor, res_val, res_obj, res_slot, frz_val, frz_obj, frz_slot, retR_val, retR_obj, retR_slot, objAt_w, isObj_w, isLst_w, putOb_w, agEn_d, agEn_s, setV_w, setEn_no, setEn_val, setEn_own, isNEn_d, isNEn_o, asB_b, onVal_v, setR_val, setR_obj, setR_slot, setRs_nil, setRs_cons, setVs_nil, setVs_cons, asgT_one, asgT_tup, extS_l, opt_s, wFs_nil, wFs_cons, wOs_nil, wOs_cons, wAs_nil, wAs_cons, wAs_bor, wBo_one, wBo_cons, wPart_nil, wPart_one, wCond_nil, wCond_one, wIt_rng1, wIt_rng2, wIt_seq, onInt_i, onSeq_l, onSeq_t, onTup_t, wSs_nil, wSs_cons, wS_set, wS_setT, wS_par, wS_setI, wS_aug, augEn_val, augEn_own, wS_augI, wS_ex, wS_ret, wS_retN, wS_ifs, wS_fo, wS_brk, wS_pas, ix_t, ix_l, ix_o, sl_t, sl_l, sl_o, o_add, o_sub, o_mul, o_fdiv, o_mod, o_pow, o_addT, o_addDD, o_addDO, o_addOD, o_addOO, neg_i, c_lt, c_le, c_gt, c_ge, c_eqI, c_neI, f_lenT, f_lenL, f_lenO, f_int, f_intB, f_abs, f_max2, f_min2, f_tupT, f_tupL, f_tupO, f_lstT, f_lstL, f_lstO, f_isB, f_isI, f_isS, f_isT, f_sumL, f_sumT, f_maxO, f_minO, f_maxT, f_minT, f_sortO, f_setO, mm_app, mm_rev, mm_pop, si_l, get_0, get_s, resEn_own, resEn_bor, resEn_val, frzEn_own, frzEn_val, retEn_own, retEn_val, objEn_own, objEn_bor, isObEn_own, isObEn_bor, isLsEn_own, isLsEn_bor, putEn_own, putEn_bor, agEn_own, agEn_bor, ag_nil, ag_one, true_and, and_true, vB, List.replicate, List.length_cons, List.length_nil, List.cons_append, List.nil_append, List.set, List.map_cons, List.map_nil, agSlots, putObs, notSlot_val, notSlot_obj, List.all_cons, List.all_nil, Bool.and_self, Bool.and_true, outsFrom, obOf_bor, obOf_own, wipeE, back, isBd, isId, isSd, isTd, noneB, g0, g1, g2, g3, g4, g5, g6, g7, g8, g9, g10, g11, g13, g14, g15, g16, g17, g18, g19, g20, g21, g22, g23]
  refine wFor_map eP (fun r ρ => ∃ e2 e3, ρ = [.val (eS st), .val (.int reach), e2, e3] ∧ nb e2 ∧ nb e3 ∧ bearsAt r reach = bearsAt st reach) ?_ ?_ st _ ⟨.no, .no, rfl, trivial, trivial, rfl⟩
  · rintro p r ρ k ⟨e2, e3, rfl, h2, h3, hb⟩ hk
    simp only [eP, bodyCt, wE_v, wE_g, wE_k, wE_op, wE_neg, wE_cmp, wE_isN, wE_ch, wE_nt, wE_bo, wE_ife, wE_tup, wE_lst, wE_dnew, wE_ix, wE_sl, wE_call, wE_bf, wE_mut, wE_comp, onEn_val, onEn_own, onEn_bor, res_val, res_obj, res_slot, frz_val, frz_obj, frz_slot, retR_val, retR_obj, retR_slot, objAt_w, isObj_w, isLst_w, putOb_w, agEn_d, agEn_s, setV_w, setEn_no, setEn_val, setEn_own, isNEn_d, isNEn_o, asB_b, onVal_v, setR_val, setR_obj, setR_slot, setRs_nil, setRs_cons, setVs_nil, setVs_cons, asgT_one, asgT_tup, extS_l, opt_s, wFs_nil, wFs_cons, wOs_nil, wOs_cons, wAs_nil, wAs_cons, wAs_bor, wBo_one, wBo_cons, wPart_nil, wPart_one, wCond_nil, wCond_one, wIt_rng1, wIt_rng2, wIt_seq, onInt_i, onSeq_l, onSeq_t, onTup_t, wSs_nil, wSs_cons, wS_set, wS_setT, wS_par, wS_setI, wS_aug, augEn_val, augEn_own, wS_augI, wS_ex, wS_ret, wS_retN, wS_ifs, wS_fo, wS_brk, wS_pas, ix_t, ix_l, ix_o, sl_t, sl_l, sl_o, o_add, o_sub, o_mul, o_fdiv, o_mod, o_pow, o_addT, o_addDD, o_addDO, o_addOD, o_addOO, neg_i, c_lt, c_le, c_gt, c_ge, c_eqI, c_neI, f_lenT, f_lenL, f_lenO, f_int, f_intB, f_abs, f_max2, f_min2, f_tupT, f_tupL, f_tupO, f_lstT, f_lstL, f_lstO, f_isB, f_isI, f_isS, f_isT, f_sumL, f_sumT, f_maxO, f_minO, f_maxT, f_minT, f_sortO, f_setO, mm_app, mm_rev, mm_pop, si_l, get_0, get_s, resEn_own, resEn_bor, resEn_val, frzEn_own, frzEn_val, retEn_own, retEn_val, objEn_own, objEn_bor, isObEn_own, isObEn_bor, isLsEn_own, isLsEn_bor, putEn_own, putEn_bor, agEn_own, agEn_bor, ag_nil, ag_one, true_and, and_true, vB, List.replicate, List.length_cons, List.length_nil, List.cons_append, List.nil_append, List.set, List.map_cons, List.map_nil, agSlots, putObs, notSlot_val, notSlot_obj, List.all_cons, List.all_nil, Bool.and_self, Bool.and_true, outsFrom, obOf_bor, obOf_own, wipeE, back, isBd, isId, isSd, isTd, noneB, g0, g1, g2, g3, g4, g5, g6, g7, g8, g9, g10, g11, g13, g14, g15, g16, g17, g18, g19, g20, g21, g22, g23, setEn_nb h2, setEn_nb h3]
    by_cases c : reach ≤ p.1
    · simp only [c, decide_true, if_true]
      rw [← hb] at h
      simpa [bearsAt, c] using h
    · simp only [c, decide_false, if_false, Bool.false_eq_true]
      refine hk _ ⟨_, _, rfl, trivial, trivial, ?_⟩
      rw [← hb]
      simp [bearsAt, c]
  · rintro ρ ⟨e2, e3, rfl, h2, h3, hb⟩
    rw [← hb] at h
    exact h
theorem fm_int {α : Type} (f : α → Option Int) (l : List α) : l.filterMap (fun a => (f a).map PyData.int) = (l.filterMap f).map PyData.int := by
  rw [List.map_filterMap]
/-- max(l) if len(l) > 0 else None, l an own list -/
theorem maxO_pos {l : List Int} (c : l ≠ []) : maxO l = some (maxI l) := if_neg c
theorem len_pos {l : List Int} (c : l ≠ []) : (0 : Int) < (l.length : Nat) := by
  have := List.length_pos_iff.mpr c
  omega
theorem s_reach {es : List En} {K : Rs → List Ob → Prop} (h : ctReach es K) : bodyCt Γ 5 ir_reach_for es K := by
  obtain ⟨st, w, rfl, h⟩ := h
  unfold eS ir_reach_for
  simp only [bodyCt, wE_v, wE_g, wE_k, wE_op, wE_neg, wE_cmp, wE_isN, wE_ch, wE_nt, wE_bo, wE_ife, wE_tup, wE_lst, wE_dnew, wE_ix, wE_sl, wE_call, wE_bf, wE_mut, wE_comp, onEn_val, onEn_own, onEn_bor, res_val, res_obj, res_slot, frz_val, frz_obj, frz_slot, retR_val, retR_obj, retR_slot, objAt_w, isObj_w, isLst_w, putOb_w, agEn_d, agEn_s, setV_w, setEn_no, setEn_val, setEn_own, isNEn_d, isNEn_o, asB_b, onVal_v, setR_val, setR_obj, setR_slot, setRs_nil, setRs_cons, setVs_nil, setVs_cons, asgT_one, asgT_tup, extS_l, opt_s, wFs_nil, wFs_cons, wOs_nil, wOs_cons, wAs_nil, wAs_cons, wAs_bor, wBo_one, wBo_cons, wPart_nil, wPart_one, wCond_nil, wCond_one, wIt_rng1, wIt_rng2, wIt_seq, onInt_i, onSeq_l, onSeq_t, onTup_t, wSs_nil, wSs_cons, wS_set, wS_setT, wS_par, wS_setI, wS_aug, augEn_val, augEn_own, wS_augI, wS_ex, wS_ret, wS_retN, wS_ifs, wS_fo, wS_brk, wS_pas, ix_t, ix_l, ix_o, sl_t, sl_l, sl_o, o_add, o_sub, o_mul, o_fdiv, o_mod, o_pow, o_addT, o_addDD, o_addDO, o_addOD, o_addOO, neg_i, c_lt, c_le, c_gt, c_ge, c_eqI, c_neI, f_lenT, f_lenL, f_lenO, f_int, f_intB, f_abs, f_max2, f_min2, f_tupT, f_tupL, f_tupO, f_lstT, f_lstL, f_lstO, f_isB, f_isI, f_isS, f_isT, f_sumL, f_sumT, f_maxO, f_minO, f_maxT, f_minT, f_sortO, f_setO, mm_app, mm_rev, mm_pop, si_l, get_0, get_s, resEn_own, resEn_bor, resEn_val, frzEn_own, frzEn_val, retEn_own, retEn_val, objEn_own, objEn_bor, isObEn_own, isObEn_bor, isLsEn_own, isLsEn_bor, putEn_own, putEn_bor, agEn_own, agEn_bor, ag_nil, ag_one, true_and, and_true, vB, List.replicate, List.length_cons, List.length_nil, List.cons_append, List.nil_append, List.set, List.map_cons, List.map_nil, agSlots, putObs, notSlot_val, notSlot_obj, List.all_cons, List.all_nil, Bool.and_self, Bool.and_true, outsFrom, obOf_bor, obOf_own, wipeE, back, isBd, isId, isSd, isTd, noneB, g0, g1, g2, g3, g4, g5, g6, g7, g8, g9, g10, g11, g13, g14, g15, g16, g17, g18, g19, g20, g21, g22, g23]
  refine ⟨by simp [noObj, Ev.get], ?_⟩
  refine wComp_pure eP (fun p => ((if w ≤ p.2 then some p.1 else none : Option Int)).map PyData.int) st _ (fun p _ kt kf h1 h2 => ?_) ?_
  · simp only [eP, bodyCt, wE_v, wE_g, wE_k, wE_op, wE_neg, wE_cmp, wE_isN, wE_ch, wE_nt, wE_bo, wE_ife, wE_tup, wE_lst, wE_dnew, wE_ix, wE_sl, wE_call, wE_bf, wE_mut, wE_comp, onEn_val, onEn_own, onEn_bor, res_val, res_obj, res_slot, frz_val, frz_obj, frz_slot, retR_val, retR_obj, retR_slot, objAt_w, isObj_w, isLst_w, putOb_w, agEn_d, agEn_s, setV_w, setEn_no, setEn_val, setEn_own, isNEn_d, isNEn_o, asB_b, onVal_v, setR_val, setR_obj, setR_slot, setRs_nil, setRs_cons, setVs_nil, setVs_cons, asgT_one, asgT_tup, extS_l, opt_s, wFs_nil, wFs_cons, wOs_nil, wOs_cons, wAs_nil, wAs_cons, wAs_bor, wBo_one, wBo_cons, wPart_nil, wPart_one, wCond_nil, wCond_one, wIt_rng1, wIt_rng2, wIt_seq, onInt_i, onSeq_l, onSeq_t, onTup_t, wSs_nil, wSs_cons, wS_set, wS_setT, wS_par, wS_setI, wS_aug, augEn_val, augEn_own, wS_augI, wS_ex, wS_ret, wS_retN, wS_ifs, wS_fo, wS_brk, wS_pas, ix_t, ix_l, ix_o, sl_t, sl_l, sl_o, o_add, o_sub, o_mul, o_fdiv, o_mod, o_pow, o_addT, o_addDD, o_addDO, o_addOD, o_addOO, neg_i, c_lt, c_le, c_gt, c_ge, c_eqI, c_neI, f_lenT, f_lenL, f_lenO, f_int, f_intB, f_abs, f_max2, f_min2, f_tupT, f_tupL, f_tupO, f_lstT, f_lstL, f_lstO, f_isB, f_isI, f_isS, f_isT, f_sumL, f_sumT, f_maxO, f_minO, f_maxT, f_minT, f_sortO, f_setO, mm_app, mm_rev, mm_pop, si_l, get_0, get_s, resEn_own, resEn_bor, resEn_val, frzEn_own, frzEn_val, retEn_own, retEn_val, objEn_own, objEn_bor, isObEn_own, isObEn_bor, isLsEn_own, isLsEn_bor, putEn_own, putEn_bor, agEn_own, agEn_bor, ag_nil, ag_one, true_and, and_true, vB, List.replicate, List.length_cons, List.length_nil, List.cons_append, List.nil_append, List.set, List.map_cons, List.map_nil, agSlots, putObs, notSlot_val, notSlot_obj, List.all_cons, List.all_nil, Bool.and_self, Bool.and_true, outsFrom, obOf_bor, obOf_own, wipeE, back, isBd, isId, isSd, isTd, noneB, g0, g1, g2, g3, g4, g5, g6, g7, g8, g9, g10, g11, g13, g14, g15, g16, g17, g18, g19, g20, g21, g22, g23]
    by_cases c : w ≤ p.2
    · simp only [c, decide_true, if_true]
      exact h1 _ _ (by simp [c]) rfl
    · simp only [c, decide_false, if_false, Bool.false_eq_true]
      exact h2 _ (by simp [c]) rfl
  · rw [fm_int, show (st.filterMap fun p => if w ≤ p.2 then some p.1 else none) = reachL st w from rfl]
    simp only [bodyCt, wE_v, wE_g, wE_k, wE_op, wE_neg, wE_cmp, wE_isN, wE_ch, wE_nt, wE_bo, wE_ife, wE_tup, wE_lst, wE_dnew, wE_ix, wE_sl, wE_call, wE_bf, wE_mut, wE_comp, onEn_val, onEn_own, onEn_bor, res_val, res_obj, res_slot, frz_val, frz_obj, frz_slot, retR_val, retR_obj, retR_slot, objAt_w, isObj_w, isLst_w, putOb_w, agEn_d, agEn_s, setV_w, setEn_no, setEn_val, setEn_own, isNEn_d, isNEn_o, asB_b, onVal_v, setR_val, setR_obj, setR_slot, setRs_nil, setRs_cons, setVs_nil, setVs_cons, asgT_one, asgT_tup, extS_l, opt_s, wFs_nil, wFs_cons, wOs_nil, wOs_cons, wAs_nil, wAs_cons, wAs_bor, wBo_one, wBo_cons, wPart_nil, wPart_one, wCond_nil, wCond_one, wIt_rng1, wIt_rng2, wIt_seq, onInt_i, onSeq_l, onSeq_t, onTup_t, wSs_nil, wSs_cons, wS_set, wS_setT, wS_par, wS_setI, wS_aug, augEn_val, augEn_own, wS_augI, wS_ex, wS_ret, wS_retN, wS_ifs, wS_fo, wS_brk, wS_pas, ix_t, ix_l, ix_o, sl_t, sl_l, sl_o, o_add, o_sub, o_mul, o_fdiv, o_mod, o_pow, o_addT, o_addDD, o_addDO, o_addOD, o_addOO, neg_i, c_lt, c_le, c_gt, c_ge, c_eqI, c_neI, f_lenT, f_lenL, f_lenO, f_int, f_intB, f_abs, f_max2, f_min2, f_tupT, f_tupL, f_tupO, f_lstT, f_lstL, f_lstO, f_isB, f_isI, f_isS, f_isT, f_sumL, f_sumT, f_maxO, f_minO, f_maxT, f_minT, f_sortO, f_setO, mm_app, mm_rev, mm_pop, si_l, get_0, get_s, resEn_own, resEn_bor, resEn_val, frzEn_own, frzEn_val, retEn_own, retEn_val, objEn_own, objEn_bor, isObEn_own, isObEn_bor, isLsEn_own, isLsEn_bor, putEn_own, putEn_bor, agEn_own, agEn_bor, ag_nil, ag_one, true_and, and_true, vB, List.replicate, List.length_cons, List.length_nil, List.cons_append, List.nil_append, List.set, List.map_cons, List.map_nil, agSlots, putObs, notSlot_val, notSlot_obj, List.all_cons, List.all_nil, Bool.and_self, Bool.and_true, outsFrom, obOf_bor, obOf_own, wipeE, back, isBd, isId, isSd, isTd, noneB, g0, g1, g2, g3, g4, g5, g6, g7, g8, g9, g10, g11, g13, g14, g15, g16, g17, g18, g19, g20, g21, g22, g23, List.length_map]
    unfold reachFor at h
    by_cases c : reachL st w = []
    · simp [c, eO, maxO] at h ⊢
      exact h
    · simp only [len_pos c, decide_true, if_true]
      rw [maxO_pos c] at h
      exact ⟨c, h⟩
theorem mulS {i : Int} (h : Sm2 i) : MulOk i i := mul_small (by have := h.1; omega) (by have := h.2; omega)
theorem at0 {x y : PyData} : atI [x, y] 0 = some x := rfl
theorem at1 {x y : PyData} : atI [x, y] 1 = some y := rfl
theorem s_sq {es : List En} {K : Rs → List Ob → Prop} (h : ctSq es K) : bodyCt Γ 1 ir_squared es K := by
  obtain ⟨p, rfl, hp, h⟩ := h
  unfold eP ir_squared
  simp only [bodyCt, wE_v, wE_g, wE_k, wE_op, wE_neg, wE_cmp, wE_isN, wE_ch, wE_nt, wE_bo, wE_ife, wE_tup, wE_lst, wE_dnew, wE_ix, wE_sl, wE_call, wE_bf, wE_mut, wE_comp, onEn_val, onEn_own, onEn_bor, res_val, res_obj, res_slot, frz_val, frz_obj, frz_slot, retR_val, retR_obj, retR_slot, objAt_w, isObj_w, isLst_w, putOb_w, agEn_d, agEn_s, setV_w, setEn_no, setEn_val, setEn_own, isNEn_d, isNEn_o, asB_b, onVal_v, setR_val, setR_obj, setR_slot, setRs_nil, setRs_cons, setVs_nil, setVs_cons, asgT_one, asgT_tup, extS_l, opt_s, wFs_nil, wFs_cons, wOs_nil, wOs_cons, wAs_nil, wAs_cons, wAs_bor, wBo_one, wBo_cons, wPart_nil, wPart_one, wCond_nil, wCond_one, wIt_rng1, wIt_rng2, wIt_seq, onInt_i, onSeq_l, onSeq_t, onTup_t, wSs_nil, wSs_cons, wS_set, wS_setT, wS_par, wS_setI, wS_aug, augEn_val, augEn_own, wS_augI, wS_ex, wS_ret, wS_retN, wS_ifs, wS_fo, wS_brk, wS_pas, ix_t, ix_l, ix_o, sl_t, sl_l, sl_o, o_add, o_sub, o_mul, o_fdiv, o_mod, o_pow, o_addT, o_addDD, o_addDO, o_addOD, o_addOO, neg_i, c_lt, c_le, c_gt, c_ge, c_eqI, c_neI, f_lenT, f_lenL, f_lenO, f_int, f_intB, f_abs, f_max2, f_min2, f_tupT, f_tupL, f_tupO, f_lstT, f_lstL, f_lstO, f_isB, f_isI, f_isS, f_isT, f_sumL, f_sumT, f_maxO, f_minO, f_maxT, f_minT, f_sortO, f_setO, mm_app, mm_rev, mm_pop, si_l, get_0, get_s, resEn_own, resEn_bor, resEn_val, frzEn_own, frzEn_val, retEn_own, retEn_val, objEn_own, objEn_bor, isObEn_own, isObEn_bor, isLsEn_own, isLsEn_bor, putEn_own, putEn_bor, agEn_own, agEn_bor, ag_nil, ag_one, true_and, and_true, vB, List.replicate, List.length_cons, List.length_nil, List.cons_append, List.nil_append, List.set, List.map_cons, List.map_nil, agSlots, putObs, notSlot_val, notSlot_obj, List.all_cons, List.all_nil, Bool.and_self, Bool.and_true, outsFrom, obOf_bor, obOf_own, wipeE, back, isBd, isId, isSd, isTd, noneB, g0, g1, g2, g3, g4, g5, g6, g7, g8, g9, g10, g11, g13, g14, g15, g16, g17, g18, g19, g20, g21, g22, g23, at0, at1]
  exact ⟨mulS hp.1, mulS hp.2, h⟩
theorem reach_mem {st : List P2} {w r : Int} (h : reachFor st w = some r) : ∃ p ∈ st, p.1 = r ∧ w ≤ p.2 := by
  unfold reachFor maxO at h
  split at h
  · cases h
  · rename_i c
    have h := Option.some.inj h
    subst h
    obtain ⟨p, hp, e⟩ := List.mem_filterMap.mp (maxI_mem c).1
    split at e
    · exact ⟨p, hp, Option.some.inj e, by assumption⟩
    · cases e
theorem s_can {es : List En} {K : Rs → List Ob → Prop} (h : ctCan es K) : bodyCt Γ 5 ir_can_lift es K := by
  obtain ⟨st, p, q, w, rfl, ⟨hs, hp, hq⟩, h⟩ := h
  unfold ir_can_lift
  simp only [bodyCt, wE_v, wE_g, wE_k, wE_op, wE_neg, wE_cmp, wE_isN, wE_ch, wE_nt, wE_bo, wE_ife, wE_tup, wE_lst, wE_dnew, wE_ix, wE_sl, wE_call, wE_bf, wE_mut, wE_comp, onEn_val, onEn_own, onEn_bor, res_val, res_obj, res_slot, frz_val, frz_obj, frz_slot, retR_val, retR_obj, retR_slot, objAt_w, isObj_w, isLst_w, putOb_w, agEn_d, agEn_s, setV_w, setEn_no, setEn_val, setEn_own, isNEn_d, isNEn_o, asB_b, onVal_v, setR_val, setR_obj, setR_slot, setRs_nil, setRs_cons, setVs_nil, setVs_cons, asgT_one, asgT_tup, extS_l, opt_s, wFs_nil, wFs_cons, wOs_nil, wOs_cons, wAs_nil, wAs_cons, wAs_bor, wBo_one, wBo_cons, wPart_nil, wPart_one, wCond_nil, wCond_one, wIt_rng1, wIt_rng2, wIt_seq, onInt_i, onSeq_l, onSeq_t, onTup_t, wSs_nil, wSs_cons, wS_set, wS_setT, wS_par, wS_setI, wS_aug, augEn_val, augEn_own, wS_augI, wS_ex, wS_ret, wS_retN, wS_ifs, wS_fo, wS_brk, wS_pas, ix_t, ix_l, ix_o, sl_t, sl_l, sl_o, o_add, o_sub, o_mul, o_fdiv, o_mod, o_pow, o_addT, o_addDD, o_addDO, o_addOD, o_addOO, neg_i, c_lt, c_le, c_gt, c_ge, c_eqI, c_neI, f_lenT, f_lenL, f_lenO, f_int, f_intB, f_abs, f_max2, f_min2, f_tupT, f_tupL, f_tupO, f_lstT, f_lstL, f_lstO, f_isB, f_isI, f_isS, f_isT, f_sumL, f_sumT, f_maxO, f_minO, f_maxT, f_minT, f_sortO, f_setO, mm_app, mm_rev, mm_pop, si_l, get_0, get_s, resEn_own, resEn_bor, resEn_val, frzEn_own, frzEn_val, retEn_own, retEn_val, objEn_own, objEn_bor, isObEn_own, isObEn_bor, isLsEn_own, isLsEn_bor, putEn_own, putEn_bor, agEn_own, agEn_bor, ag_nil, ag_one, true_and, and_true, vB, List.replicate, List.length_cons, List.length_nil, List.cons_append, List.nil_append, List.set, List.map_cons, List.map_nil, agSlots, putObs, notSlot_val, notSlot_obj, List.all_cons, List.all_nil, Bool.and_self, Bool.and_true, outsFrom, obOf_bor, obOf_own, wipeE, back, isBd, isId, isSd, isTd, noneB, g0, g1, g2, g3, g4, g5, g6, g7, g8, g9, g10, g11, g13, g14, g15, g16, g17, g18, g19, g20, g21, g22, g23]
  refine ⟨st, w, rfl, rfl, ?_⟩
  simp only [bodyCt, wE_v, wE_g, wE_k, wE_op, wE_neg, wE_cmp, wE_isN, wE_ch, wE_nt, wE_bo, wE_ife, wE_tup, wE_lst, wE_dnew, wE_ix, wE_sl, wE_call, wE_bf, wE_mut, wE_comp, onEn_val, onEn_own, onEn_bor, res_val, res_obj, res_slot, frz_val, frz_obj, frz_slot, retR_val, retR_obj, retR_slot, objAt_w, isObj_w, isLst_w, putOb_w, agEn_d, agEn_s, setV_w, setEn_no, setEn_val, setEn_own, isNEn_d, isNEn_o, asB_b, onVal_v, setR_val, setR_obj, setR_slot, setRs_nil, setRs_cons, setVs_nil, setVs_cons, asgT_one, asgT_tup, extS_l, opt_s, wFs_nil, wFs_cons, wOs_nil, wOs_cons, wAs_nil, wAs_cons, wAs_bor, wBo_one, wBo_cons, wPart_nil, wPart_one, wCond_nil, wCond_one, wIt_rng1, wIt_rng2, wIt_seq, onInt_i, onSeq_l, onSeq_t, onTup_t, wSs_nil, wSs_cons, wS_set, wS_setT, wS_par, wS_setI, wS_aug, augEn_val, augEn_own, wS_augI, wS_ex, wS_ret, wS_retN, wS_ifs, wS_fo, wS_brk, wS_pas, ix_t, ix_l, ix_o, sl_t, sl_l, sl_o, o_add, o_sub, o_mul, o_fdiv, o_mod, o_pow, o_addT, o_addDD, o_addDO, o_addOD, o_addOO, neg_i, c_lt, c_le, c_gt, c_ge, c_eqI, c_neI, f_lenT, f_lenL, f_lenO, f_int, f_intB, f_abs, f_max2, f_min2, f_tupT, f_tupL, f_tupO, f_lstT, f_lstL, f_lstO, f_isB, f_isI, f_isS, f_isT, f_sumL, f_sumT, f_maxO, f_minO, f_maxT, f_minT, f_sortO, f_setO, mm_app, mm_rev, mm_pop, si_l, get_0, get_s, resEn_own, resEn_bor, resEn_val, frzEn_own, frzEn_val, retEn_own, retEn_val, objEn_own, objEn_bor, isObEn_own, isObEn_bor, isLsEn_own, isLsEn_bor, putEn_own, putEn_bor, agEn_own, agEn_bor, ag_nil, ag_one, true_and, and_true, vB, List.replicate, List.length_cons, List.length_nil, List.cons_append, List.nil_append, List.set, List.map_cons, List.map_nil, agSlots, putObs, notSlot_val, notSlot_obj, List.all_cons, List.all_nil, Bool.and_self, Bool.and_true, outsFrom, obOf_bor, obOf_own, wipeE, back, isBd, isId, isSd, isTd, noneB, g0, g1, g2, g3, g4, g5, g6, g7, g8, g9, g10, g11, g13, g14, g15, g16, g17, g18, g19, g20, g21, g22, g23]
  cases e : reachFor st w with
  | none =>
    simp only [eO, bodyCt, wE_v, wE_g, wE_k, wE_op, wE_neg, wE_cmp, wE_isN, wE_ch, wE_nt, wE_bo, wE_ife, wE_tup, wE_lst, wE_dnew, wE_ix, wE_sl, wE_call, wE_bf, wE_mut, wE_comp, onEn_val, onEn_own, onEn_bor, res_val, res_obj, res_slot, frz_val, frz_obj, frz_slot, retR_val, retR_obj, retR_slot, objAt_w, isObj_w, isLst_w, putOb_w, agEn_d, agEn_s, setV_w, setEn_no, setEn_val, setEn_own, isNEn_d, isNEn_o, asB_b, onVal_v, setR_val, setR_obj, setR_slot, setRs_nil, setRs_cons, setVs_nil, setVs_cons, asgT_one, asgT_tup, extS_l, opt_s, wFs_nil, wFs_cons, wOs_nil, wOs_cons, wAs_nil, wAs_cons, wAs_bor, wBo_one, wBo_cons, wPart_nil, wPart_one, wCond_nil, wCond_one, wIt_rng1, wIt_rng2, wIt_seq, onInt_i, onSeq_l, onSeq_t, onTup_t, wSs_nil, wSs_cons, wS_set, wS_setT, wS_par, wS_setI, wS_aug, augEn_val, augEn_own, wS_augI, wS_ex, wS_ret, wS_retN, wS_ifs, wS_fo, wS_brk, wS_pas, ix_t, ix_l, ix_o, sl_t, sl_l, sl_o, o_add, o_sub, o_mul, o_fdiv, o_mod, o_pow, o_addT, o_addDD, o_addDO, o_addOD, o_addOO, neg_i, c_lt, c_le, c_gt, c_ge, c_eqI, c_neI, f_lenT, f_lenL, f_lenO, f_int, f_intB, f_abs, f_max2, f_min2, f_tupT, f_tupL, f_tupO, f_lstT, f_lstL, f_lstO, f_isB, f_isI, f_isS, f_isT, f_sumL, f_sumT, f_maxO, f_minO, f_maxT, f_minT, f_sortO, f_setO, mm_app, mm_rev, mm_pop, si_l, get_0, get_s, resEn_own, resEn_bor, resEn_val, frzEn_own, frzEn_val, retEn_own, retEn_val, objEn_own, objEn_bor, isObEn_own, isObEn_bor, isLsEn_own, isLsEn_bor, putEn_own, putEn_bor, agEn_own, agEn_bor, ag_nil, ag_one, true_and, and_true, vB, List.replicate, List.length_cons, List.length_nil, List.cons_append, List.nil_append, List.set, List.map_cons, List.map_nil, agSlots, putObs, notSlot_val, notSlot_obj, List.all_cons, List.all_nil, Bool.and_self, Bool.and_true, outsFrom, obOf_bor, obOf_own, wipeE, back, isBd, isId, isSd, isTd, noneB, g0, g1, g2, g3, g4, g5, g6, g7, g8, g9, g10, g11, g13, g14, g15, g16, g17, g18, g19, g20, g21, g22, g23, isNEn_d, if_true, Bool.not_true, Bool.false_eq_true, if_false]
    unfold canLift at h
    rw [e] at h
    exact h
  | some r =>
    simp only [eO, bodyCt, wE_v, wE_g, wE_k, wE_op, wE_neg, wE_cmp, wE_isN, wE_ch, wE_nt, wE_bo, wE_ife, wE_tup, wE_lst, wE_dnew, wE_ix, wE_sl, wE_call, wE_bf, wE_mut, wE_comp, onEn_val, onEn_own, onEn_bor, res_val, res_obj, res_slot, frz_val, frz_obj, frz_slot, retR_val, retR_obj, retR_slot, objAt_w, isObj_w, isLst_w, putOb_w, agEn_d, agEn_s, setV_w, setEn_no, setEn_val, setEn_own, isNEn_d, isNEn_o, asB_b, onVal_v, setR_val, setR_obj, setR_slot, setRs_nil, setRs_cons, setVs_nil, setVs_cons, asgT_one, asgT_tup, extS_l, opt_s, wFs_nil, wFs_cons, wOs_nil, wOs_cons, wAs_nil, wAs_cons, wAs_bor, wBo_one, wBo_cons, wPart_nil, wPart_one, wCond_nil, wCond_one, wIt_rng1, wIt_rng2, wIt_seq, onInt_i, onSeq_l, onSeq_t, onTup_t, wSs_nil, wSs_cons, wS_set, wS_setT, wS_par, wS_setI, wS_aug, augEn_val, augEn_own, wS_augI, wS_ex, wS_ret, wS_retN, wS_ifs, wS_fo, wS_brk, wS_pas, ix_t, ix_l, ix_o, sl_t, sl_l, sl_o, o_add, o_sub, o_mul, o_fdiv, o_mod, o_pow, o_addT, o_addDD, o_addDO, o_addOD, o_addOO, neg_i, c_lt, c_le, c_gt, c_ge, c_eqI, c_neI, f_lenT, f_lenL, f_lenO, f_int, f_intB, f_abs, f_max2, f_min2, f_tupT, f_tupL, f_tupO, f_lstT, f_lstL, f_lstO, f_isB, f_isI, f_isS, f_isT, f_sumL, f_sumT, f_maxO, f_minO, f_maxT, f_minT, f_sortO, f_setO, mm_app, mm_rev, mm_pop, si_l, get_0, get_s, resEn_own, resEn_bor, resEn_val, frzEn_own, frzEn_val, retEn_own, retEn_val, objEn_own, objEn_bor, isObEn_own, isObEn_bor, isLsEn_own, isLsEn_bor, putEn_own, putEn_bor, agEn_own, agEn_bor, ag_nil, ag_one, true_and, and_true, vB, List.replicate, List.length_cons, List.length_nil, List.cons_append, List.nil_append, List.set, List.map_cons, List.map_nil, agSlots, putObs, notSlot_val, notSlot_obj, List.all_cons, List.all_nil, Bool.and_self, Bool.and_true, outsFrom, obOf_bor, obOf_own, wipeE, back, isBd, isId, isSd, isTd, noneB, g0, g1, g2, g3, g4, g5, g6, g7, g8, g9, g10, g11, g13, g14, g15, g16, g17, g18, g19, g20, g21, g22, g23, isNEn_d, if_true, Bool.not_false]
    obtain ⟨x, hx, rfl, _⟩ := reach_mem e
    refine ⟨p, rfl, hp, rfl, ?_⟩
    simp only [bodyCt, wE_v, wE_g, wE_k, wE_op, wE_neg, wE_cmp, wE_isN, wE_ch, wE_nt, wE_bo, wE_ife, wE_tup, wE_lst, wE_dnew, wE_ix, wE_sl, wE_call, wE_bf, wE_mut, wE_comp, onEn_val, onEn_own, onEn_bor, res_val, res_obj, res_slot, frz_val, frz_obj, frz_slot, retR_val, retR_obj, retR_slot, objAt_w, isObj_w, isLst_w, putOb_w, agEn_d, agEn_s, setV_w, setEn_no, setEn_val, setEn_own, isNEn_d, isNEn_o, asB_b, onVal_v, setR_val, setR_obj, setR_slot, setRs_nil, setRs_cons, setVs_nil, setVs_cons, asgT_one, asgT_tup, extS_l, opt_s, wFs_nil, wFs_cons, wOs_nil, wOs_cons, wAs_nil, wAs_cons, wAs_bor, wBo_one, wBo_cons, wPart_nil, wPart_one, wCond_nil, wCond_one, wIt_rng1, wIt_rng2, wIt_seq, onInt_i, onSeq_l, onSeq_t, onTup_t, wSs_nil, wSs_cons, wS_set, wS_setT, wS_par, wS_setI, wS_aug, augEn_val, augEn_own, wS_augI, wS_ex, wS_ret, wS_retN, wS_ifs, wS_fo, wS_brk, wS_pas, ix_t, ix_l, ix_o, sl_t, sl_l, sl_o, o_add, o_sub, o_mul, o_fdiv, o_mod, o_pow, o_addT, o_addDD, o_addDO, o_addOD, o_addOO, neg_i, c_lt, c_le, c_gt, c_ge, c_eqI, c_neI, f_lenT, f_lenL, f_lenO, f_int, f_intB, f_abs, f_max2, f_min2, f_tupT, f_tupL, f_tupO, f_lstT, f_lstL, f_lstO, f_isB, f_isI, f_isS, f_isT, f_sumL, f_sumT, f_maxO, f_minO, f_maxT, f_minT, f_sortO, f_setO, mm_app, mm_rev, mm_pop, si_l, get_0, get_s, resEn_own, resEn_bor, resEn_val, frzEn_own, frzEn_val, retEn_own, retEn_val, objEn_own, objEn_bor, isObEn_own, isObEn_bor, isLsEn_own, isLsEn_bor, putEn_own, putEn_bor, agEn_own, agEn_bor, ag_nil, ag_one, true_and, and_true, vB, List.replicate, List.length_cons, List.length_nil, List.cons_append, List.nil_append, List.set, List.map_cons, List.map_nil, agSlots, putObs, notSlot_val, notSlot_obj, List.all_cons, List.all_nil, Bool.and_self, Bool.and_true, outsFrom, obOf_bor, obOf_own, wipeE, back, isBd, isId, isSd, isTd, noneB, g0, g1, g2, g3, g4, g5, g6, g7, g8, g9, g10, g11, g13, g14, g15, g16, g17, g18, g19, g20, g21, g22, g23]
    refine ⟨q, rfl, hq, rfl, ?_⟩
    simp only [bodyCt, wE_v, wE_g, wE_k, wE_op, wE_neg, wE_cmp, wE_isN, wE_ch, wE_nt, wE_bo, wE_ife, wE_tup, wE_lst, wE_dnew, wE_ix, wE_sl, wE_call, wE_bf, wE_mut, wE_comp, onEn_val, onEn_own, onEn_bor, res_val, res_obj, res_slot, frz_val, frz_obj, frz_slot, retR_val, retR_obj, retR_slot, objAt_w, isObj_w, isLst_w, putOb_w, agEn_d, agEn_s, setV_w, setEn_no, setEn_val, setEn_own, isNEn_d, isNEn_o, asB_b, onVal_v, setR_val, setR_obj, setR_slot, setRs_nil, setRs_cons, setVs_nil, setVs_cons, asgT_one, asgT_tup, extS_l, opt_s, wFs_nil, wFs_cons, wOs_nil, wOs_cons, wAs_nil, wAs_cons, wAs_bor, wBo_one, wBo_cons, wPart_nil, wPart_one, wCond_nil, wCond_one, wIt_rng1, wIt_rng2, wIt_seq, onInt_i, onSeq_l, onSeq_t, onTup_t, wSs_nil, wSs_cons, wS_set, wS_setT, wS_par, wS_setI, wS_aug, augEn_val, augEn_own, wS_augI, wS_ex, wS_ret, wS_retN, wS_ifs, wS_fo, wS_brk, wS_pas, ix_t, ix_l, ix_o, sl_t, sl_l, sl_o, o_add, o_sub, o_mul, o_fdiv, o_mod, o_pow, o_addT, o_addDD, o_addDO, o_addOD, o_addOO, neg_i, c_lt, c_le, c_gt, c_ge, c_eqI, c_neI, f_lenT, f_lenL, f_lenO, f_int, f_intB, f_abs, f_max2, f_min2, f_tupT, f_tupL, f_tupO, f_lstT, f_lstL, f_lstO, f_isB, f_isI, f_isS, f_isT, f_sumL, f_sumT, f_maxO, f_minO, f_maxT, f_minT, f_sortO, f_setO, mm_app, mm_rev, mm_pop, si_l, get_0, get_s, resEn_own, resEn_bor, resEn_val, frzEn_own, frzEn_val, retEn_own, retEn_val, objEn_own, objEn_bor, isObEn_own, isObEn_bor, isLsEn_own, isLsEn_bor, putEn_own, putEn_bor, agEn_own, agEn_bor, ag_nil, ag_one, true_and, and_true, vB, List.replicate, List.length_cons, List.length_nil, List.cons_append, List.nil_append, List.set, List.map_cons, List.map_nil, agSlots, putObs, notSlot_val, notSlot_obj, List.all_cons, List.all_nil, Bool.and_self, Bool.and_true, outsFrom, obOf_bor, obOf_own, wipeE, back, isBd, isId, isSd, isTd, noneB, g0, g1, g2, g3, g4, g5, g6, g7, g8, g9, g10, g11, g13, g14, g15, g16, g17, g18, g19, g20, g21, g22, g23]
    have b := hs.2.1 x hx
    refine ⟨mul_small (by omega) (by omega), ?_⟩
    unfold canLift at h
    rw [e] at h
    exact h
theorem s_seen {es : List En} {K : Rs → List Ob → Prop} (h : ctSeen es K) : bodyCt Γ 2 ir_seen_from es K := by
  obtain ⟨s, p, rfl, h⟩ := h
  unfold ir_seen_from
  simp only [eP, bodyCt, wE_v, wE_g, wE_k, wE_op, wE_neg, wE_cmp, wE_isN, wE_ch, wE_nt, wE_bo, wE_ife, wE_tup, wE_lst, wE_dnew, wE_ix, wE_sl, wE_call, wE_bf, wE_mut, wE_comp, onEn_val, onEn_own, onEn_bor, res_val, res_obj, res_slot, frz_val, frz_obj, frz_slot, retR_val, retR_obj, retR_slot, objAt_w, isObj_w, isLst_w, putOb_w, agEn_d, agEn_s, setV_w, setEn_no, setEn_val, setEn_own, isNEn_d, isNEn_o, asB_b, onVal_v, setR_val, setR_obj, setR_slot, setRs_nil, setRs_cons, setVs_nil, setVs_cons, asgT_one, asgT_tup, extS_l, opt_s, wFs_nil, wFs_cons, wOs_nil, wOs_cons, wAs_nil, wAs_cons, wAs_bor, wBo_one, wBo_cons, wPart_nil, wPart_one, wCond_nil, wCond_one, wIt_rng1, wIt_rng2, wIt_seq, onInt_i, onSeq_l, onSeq_t, onTup_t, wSs_nil, wSs_cons, wS_set, wS_setT, wS_par, wS_setI, wS_aug, augEn_val, augEn_own, wS_augI, wS_ex, wS_ret, wS_retN, wS_ifs, wS_fo, wS_brk, wS_pas, ix_t, ix_l, ix_o, sl_t, sl_l, sl_o, o_add, o_sub, o_mul, o_fdiv, o_mod, o_pow, o_addT, o_addDD, o_addDO, o_addOD, o_addOO, neg_i, c_lt, c_le, c_gt, c_ge, c_eqI, c_neI, f_lenT, f_lenL, f_lenO, f_int, f_intB, f_abs, f_max2, f_min2, f_tupT, f_tupL, f_tupO, f_lstT, f_lstL, f_lstO, f_isB, f_isI, f_isS, f_isT, f_sumL, f_sumT, f_maxO, f_minO, f_maxT, f_minT, f_sortO, f_setO, mm_app, mm_rev, mm_pop, si_l, get_0, get_s, resEn_own, resEn_bor, resEn_val, frzEn_own, frzEn_val, retEn_own, retEn_val, objEn_own, objEn_bor, isObEn_own, isObEn_bor, isLsEn_own, isLsEn_bor, putEn_own, putEn_bor, agEn_own, agEn_bor, ag_nil, ag_one, true_and, and_true, vB, List.replicate, List.length_cons, List.length_nil, List.cons_append, List.nil_append, List.set, List.map_cons, List.map_nil, agSlots, putObs, notSlot_val, notSlot_obj, List.all_cons, List.all_nil, Bool.and_self, Bool.and_true, outsFrom, obOf_bor, obOf_own, wipeE, back, isBd, isId, isSd, isTd, noneB, g0, g1, g2, g3, g4, g5, g6, g7, g8, g9, g10, g11, g13, g14, g15, g16, g17, g18, g19, g20, g21, g22, g23, at0, at1]
  exact ⟨by decide, h⟩
theorem s_lifts {es : List En} {K : Rs → List Ob → Prop} (h : ctLifts es K) : bodyCt Γ 4 ir_lifts_in_day es K := by
  obtain ⟨m, ws, rfl, h⟩ := h
  unfold ir_lifts_in_day
  simp only [bodyCt, wE_v, wE_g, wE_k, wE_op, wE_neg, wE_cmp, wE_isN, wE_ch, wE_nt, wE_bo, wE_ife, wE_tup, wE_lst, wE_dnew, wE_ix, wE_sl, wE_call, wE_bf, wE_mut, wE_comp, onEn_val, onEn_own, onEn_bor, res_val, res_obj, res_slot, frz_val, frz_obj, frz_slot, retR_val, retR_obj, retR_slot, objAt_w, isObj_w, isLst_w, putOb_w, agEn_d, agEn_s, setV_w, setEn_no, setEn_val, setEn_own, isNEn_d, isNEn_o, asB_b, onVal_v, setR_val, setR_obj, setR_slot, setRs_nil, setRs_cons, setVs_nil, setVs_cons, asgT_one, asgT_tup, extS_l, opt_s, wFs_nil, wFs_cons, wOs_nil, wOs_cons, wAs_nil, wAs_cons, wAs_bor, wBo_one, wBo_cons, wPart_nil, wPart_one, wCond_nil, wCond_one, wIt_rng1, wIt_rng2, wIt_seq, onInt_i, onSeq_l, onSeq_t, onTup_t, wSs_nil, wSs_cons, wS_set, wS_setT, wS_par, wS_setI, wS_aug, augEn_val, augEn_own, wS_augI, wS_ex, wS_ret, wS_retN, wS_ifs, wS_fo, wS_brk, wS_pas, ix_t, ix_l, ix_o, sl_t, sl_l, sl_o, o_add, o_sub, o_mul, o_fdiv, o_mod, o_pow, o_addT, o_addDD, o_addDO, o_addOD, o_addOO, neg_i, c_lt, c_le, c_gt, c_ge, c_eqI, c_neI, f_lenT, f_lenL, f_lenO, f_int, f_intB, f_abs, f_max2, f_min2, f_tupT, f_tupL, f_tupO, f_lstT, f_lstL, f_lstO, f_isB, f_isI, f_isS, f_isT, f_sumL, f_sumT, f_maxO, f_minO, f_maxT, f_minT, f_sortO, f_setO, mm_app, mm_rev, mm_pop, si_l, get_0, get_s, resEn_own, resEn_bor, resEn_val, frzEn_own, frzEn_val, retEn_own, retEn_val, objEn_own, objEn_bor, isObEn_own, isObEn_bor, isLsEn_own, isLsEn_bor, putEn_own, putEn_bor, agEn_own, agEn_bor, ag_nil, ag_one, true_and, and_true, vB, List.replicate, List.length_cons, List.length_nil, List.cons_append, List.nil_append, List.set, List.map_cons, List.map_nil, agSlots, putObs, notSlot_val, notSlot_obj, List.all_cons, List.all_nil, Bool.and_self, Bool.and_true, outsFrom, obOf_bor, obOf_own, wipeE, back, isBd, isId, isSd, isTd, noneB, g0, g1, g2, g3, g4, g5, g6, g7, g8, g9, g10, g11, g13, g14, g15, g16, g17, g18, g19, g20, g21, g22, g23]
  simp only [wS]
  refine ⟨fun n ρ => ∃ (k : Nat) (left : Int), ρ = [.val (.int m), .val (.tuple (ws.map .int)), .val (.int left), .val (.int k)] ∧ n = ws.length - k ∧ k ≤ ws.length ∧ k + lifts left (ws.drop k) = lifts m ws, ⟨ws.length, 0, m, rfl, by omega, by omega, by simp⟩, ?_⟩
  rintro n ρ ⟨k, left, rfl, hn, hk, hl⟩
  simp only [bodyCt, wE_v, wE_g, wE_k, wE_op, wE_neg, wE_cmp, wE_isN, wE_ch, wE_nt, wE_bo, wE_ife, wE_tup, wE_lst, wE_dnew, wE_ix, wE_sl, wE_call, wE_bf, wE_mut, wE_comp, onEn_val, onEn_own, onEn_bor, res_val, res_obj, res_slot, frz_val, frz_obj, frz_slot, retR_val, retR_obj, retR_slot, objAt_w, isObj_w, isLst_w, putOb_w, agEn_d, agEn_s, setV_w, setEn_no, setEn_val, setEn_own, isNEn_d, isNEn_o, asB_b, onVal_v, setR_val, setR_obj, setR_slot, setRs_nil, setRs_cons, setVs_nil, setVs_cons, asgT_one, asgT_tup, extS_l, opt_s, wFs_nil, wFs_cons, wOs_nil, wOs_cons, wAs_nil, wAs_cons, wAs_bor, wBo_one, wBo_cons, wPart_nil, wPart_one, wCond_nil, wCond_one, wIt_rng1, wIt_rng2, wIt_seq, onInt_i, onSeq_l, onSeq_t, onTup_t, wSs_nil, wSs_cons, wS_set, wS_setT, wS_par, wS_setI, wS_aug, augEn_val, augEn_own, wS_augI, wS_ex, wS_ret, wS_retN, wS_ifs, wS_fo, wS_brk, wS_pas, ix_t, ix_l, ix_o, sl_t, sl_l, sl_o, o_add, o_sub, o_mul, o_fdiv, o_mod, o_pow, o_addT, o_addDD, o_addDO, o_addOD, o_addOO, neg_i, c_lt, c_le, c_gt, c_ge, c_eqI, c_neI, f_lenT, f_lenL, f_lenO, f_int, f_intB, f_abs, f_max2, f_min2, f_tupT, f_tupL, f_tupO, f_lstT, f_lstL, f_lstO, f_isB, f_isI, f_isS, f_isT, f_sumL, f_sumT, f_maxO, f_minO, f_maxT, f_minT, f_sortO, f_setO, mm_app, mm_rev, mm_pop, si_l, get_0, get_s, resEn_own, resEn_bor, resEn_val, frzEn_own, frzEn_val, retEn_own, retEn_val, objEn_own, objEn_bor, isObEn_own, isObEn_bor, isLsEn_own, isLsEn_bor, putEn_own, putEn_bor, agEn_own, agEn_bor, ag_nil, ag_one, true_and, and_true, vB, List.replicate, List.length_cons, List.length_nil, List.cons_append, List.nil_append, List.set, List.map_cons, List.map_nil, agSlots, putObs, notSlot_val, notSlot_obj, List.all_cons, List.all_nil, Bool.and_self, Bool.and_true, outsFrom, obOf_bor, obOf_own, wipeE, back, isBd, isId, isSd, isTd, noneB, g0, g1, g2, g3, g4, g5, g6, g7, g8, g9, g10, g11, g13, g14, g15, g16, g17, g18, g19, g20, g21, g22, g23, List.length_map]
  by_cases c : k < ws.length
  · have c2 : ((k : Nat) : Int) < (ws.length : Nat) := by omega
    rw [List.drop_eq_getElem_cons c] at hl
    have ga : ws.getD k 0 = ws[k] := by rw [List.getD_eq_getElem?_getD, List.getElem?_eq_getElem c]; rfl
    simp only [c2, decide_true, if_true, bodyCt, wE_v, wE_g, wE_k, wE_op, wE_neg, wE_cmp, wE_isN, wE_ch, wE_nt, wE_bo, wE_ife, wE_tup, wE_lst, wE_dnew, wE_ix, wE_sl, wE_call, wE_bf, wE_mut, wE_comp, onEn_val, onEn_own, onEn_bor, res_val, res_obj, res_slot, frz_val, frz_obj, frz_slot, retR_val, retR_obj, retR_slot, objAt_w, isObj_w, isLst_w, putOb_w, agEn_d, agEn_s, setV_w, setEn_no, setEn_val, setEn_own, isNEn_d, isNEn_o, asB_b, onVal_v, setR_val, setR_obj, setR_slot, setRs_nil, setRs_cons, setVs_nil, setVs_cons, asgT_one, asgT_tup, extS_l, opt_s, wFs_nil, wFs_cons, wOs_nil, wOs_cons, wAs_nil, wAs_cons, wAs_bor, wBo_one, wBo_cons, wPart_nil, wPart_one, wCond_nil, wCond_one, wIt_rng1, wIt_rng2, wIt_seq, onInt_i, onSeq_l, onSeq_t, onTup_t, wSs_nil, wSs_cons, wS_set, wS_setT, wS_par, wS_setI, wS_aug, augEn_val, augEn_own, wS_augI, wS_ex, wS_ret, wS_retN, wS_ifs, wS_fo, wS_brk, wS_pas, ix_t, ix_l, ix_o, sl_t, sl_l, sl_o, o_add, o_sub, o_mul, o_fdiv, o_mod, o_pow, o_addT, o_addDD, o_addDO, o_addOD, o_addOO, neg_i, c_lt, c_le, c_gt, c_ge, c_eqI, c_neI, f_lenT, f_lenL, f_lenO, f_int, f_intB, f_abs, f_max2, f_min2, f_tupT, f_tupL, f_tupO, f_lstT, f_lstL, f_lstO, f_isB, f_isI, f_isS, f_isT, f_sumL, f_sumT, f_maxO, f_minO, f_maxT, f_minT, f_sortO, f_setO, mm_app, mm_rev, mm_pop, si_l, get_0, get_s, resEn_own, resEn_bor, resEn_val, frzEn_own, frzEn_val, retEn_own, retEn_val, objEn_own, objEn_bor, isObEn_own, isObEn_bor, isLsEn_own, isLsEn_bor, putEn_own, putEn_bor, agEn_own, agEn_bor, ag_nil, ag_one, true_and, and_true, vB, List.replicate, List.length_cons, List.length_nil, List.cons_append, List.nil_append, List.set, List.map_cons, List.map_nil, agSlots, putObs, notSlot_val, notSlot_obj, List.all_cons, List.all_nil, Bool.and_self, Bool.and_true, outsFrom, obOf_bor, obOf_own, wipeE, back, isBd, isId, isSd, isTd, noneB, g0, g1, g2, g3, g4, g5, g6, g7, g8, g9, g10, g11, g13, g14, g15, g16, g17, g18, g19, g20, g21, g22, g23, atI_int (l := ws) (j := (k : Nat)) (by omega) c2, Int.toNat_natCast, ga]
    rw [show lifts left (ws[k] :: ws.drop (k + 1)) = if ws[k] ≤ left then 1 + lifts (left - ws[k]) (ws.drop (k + 1)) else 0 from rfl] at hl
    by_cases d : ws[k] ≤ left
    · simp only [d, decide_true, if_true, bodyCt, wE_v, wE_g, wE_k, wE_op, wE_neg, wE_cmp, wE_isN, wE_ch, wE_nt, wE_bo, wE_ife, wE_tup, wE_lst, wE_dnew, wE_ix, wE_sl, wE_call, wE_bf, wE_mut, wE_comp, onEn_val, onEn_own, onEn_bor, res_val, res_obj, res_slot, frz_val, frz_obj, frz_slot, retR_val, retR_obj, retR_slot, objAt_w, isObj_w, isLst_w, putOb_w, agEn_d, agEn_s, setV_w, setEn_no, setEn_val, setEn_own, isNEn_d, isNEn_o, asB_b, onVal_v, setR_val, setR_obj, setR_slot, setRs_nil, setRs_cons, setVs_nil, setVs_cons, asgT_one, asgT_tup, extS_l, opt_s, wFs_nil, wFs_cons, wOs_nil, wOs_cons, wAs_nil, wAs_cons, wAs_bor, wBo_one, wBo_cons, wPart_nil, wPart_one, wCond_nil, wCond_one, wIt_rng1, wIt_rng2, wIt_seq, onInt_i, onSeq_l, onSeq_t, onTup_t, wSs_nil, wSs_cons, wS_set, wS_setT, wS_par, wS_setI, wS_aug, augEn_val, augEn_own, wS_augI, wS_ex, wS_ret, wS_retN, wS_ifs, wS_fo, wS_brk, wS_pas, ix_t, ix_l, ix_o, sl_t, sl_l, sl_o, o_add, o_sub, o_mul, o_fdiv, o_mod, o_pow, o_addT, o_addDD, o_addDO, o_addOD, o_addOO, neg_i, c_lt, c_le, c_gt, c_ge, c_eqI, c_neI, f_lenT, f_lenL, f_lenO, f_int, f_intB, f_abs, f_max2, f_min2, f_tupT, f_tupL, f_tupO, f_lstT, f_lstL, f_lstO, f_isB, f_isI, f_isS, f_isT, f_sumL, f_sumT, f_maxO, f_minO, f_maxT, f_minT, f_sortO, f_setO, mm_app, mm_rev, mm_pop, si_l, get_0, get_s, resEn_own, resEn_bor, resEn_val, frzEn_own, frzEn_val, retEn_own, retEn_val, objEn_own, objEn_bor, isObEn_own, isObEn_bor, isLsEn_own, isLsEn_bor, putEn_own, putEn_bor, agEn_own, agEn_bor, ag_nil, ag_one, true_and, and_true, vB, List.replicate, List.length_cons, List.length_nil, List.cons_append, List.nil_append, List.set, List.map_cons, List.map_nil, agSlots, putObs, notSlot_val, notSlot_obj, List.all_cons, List.all_nil, Bool.and_self, Bool.and_true, outsFrom, obOf_bor, obOf_own, wipeE, back, isBd, isId, isSd, isTd, noneB, g0, g1, g2, g3, g4, g5, g6, g7, g8, g9, g10, g11, g13, g14, g15, g16, g17, g18, g19, g20, g21, g22, g23]
      rw [if_pos d] at hl
      refine ⟨_, ?_, k + 1, _, rfl, rfl, by omega, ?_⟩
      · omega
      · push_cast
        omega
    · simp only [d, decide_false, Bool.false_eq_true, if_false, bodyCt, wE_v, wE_g, wE_k, wE_op, wE_neg, wE_cmp, wE_isN, wE_ch, wE_nt, wE_bo, wE_ife, wE_tup, wE_lst, wE_dnew, wE_ix, wE_sl, wE_call, wE_bf, wE_mut, wE_comp, onEn_val, onEn_own, onEn_bor, res_val, res_obj, res_slot, frz_val, frz_obj, frz_slot, retR_val, retR_obj, retR_slot, objAt_w, isObj_w, isLst_w, putOb_w, agEn_d, agEn_s, setV_w, setEn_no, setEn_val, setEn_own, isNEn_d, isNEn_o, asB_b, onVal_v, setR_val, setR_obj, setR_slot, setRs_nil, setRs_cons, setVs_nil, setVs_cons, asgT_one, asgT_tup, extS_l, opt_s, wFs_nil, wFs_cons, wOs_nil, wOs_cons, wAs_nil, wAs_cons, wAs_bor, wBo_one, wBo_cons, wPart_nil, wPart_one, wCond_nil, wCond_one, wIt_rng1, wIt_rng2, wIt_seq, onInt_i, onSeq_l, onSeq_t, onTup_t, wSs_nil, wSs_cons, wS_set, wS_setT, wS_par, wS_setI, wS_aug, augEn_val, augEn_own, wS_augI, wS_ex, wS_ret, wS_retN, wS_ifs, wS_fo, wS_brk, wS_pas, ix_t, ix_l, ix_o, sl_t, sl_l, sl_o, o_add, o_sub, o_mul, o_fdiv, o_mod, o_pow, o_addT, o_addDD, o_addDO, o_addOD, o_addOO, neg_i, c_lt, c_le, c_gt, c_ge, c_eqI, c_neI, f_lenT, f_lenL, f_lenO, f_int, f_intB, f_abs, f_max2, f_min2, f_tupT, f_tupL, f_tupO, f_lstT, f_lstL, f_lstO, f_isB, f_isI, f_isS, f_isT, f_sumL, f_sumT, f_maxO, f_minO, f_maxT, f_minT, f_sortO, f_setO, mm_app, mm_rev, mm_pop, si_l, get_0, get_s, resEn_own, resEn_bor, resEn_val, frzEn_own, frzEn_val, retEn_own, retEn_val, objEn_own, objEn_bor, isObEn_own, isObEn_bor, isLsEn_own, isLsEn_bor, putEn_own, putEn_bor, agEn_own, agEn_bor, ag_nil, ag_one, true_and, and_true, vB, List.replicate, List.length_cons, List.length_nil, List.cons_append, List.nil_append, List.set, List.map_cons, List.map_nil, agSlots, putObs, notSlot_val, notSlot_obj, List.all_cons, List.all_nil, Bool.and_self, Bool.and_true, outsFrom, obOf_bor, obOf_own, wipeE, back, isBd, isId, isSd, isTd, noneB, g0, g1, g2, g3, g4, g5, g6, g7, g8, g9, g10, g11, g13, g14, g15, g16, g17, g18, g19, g20, g21, g22, g23]
      rw [if_neg d] at hl
      rw [← hl] at h
      simpa using h
  · have c2 : ¬ ((k : Nat) : Int) < (ws.length : Nat) := by omega
    simp only [c2, decide_false, Bool.false_eq_true, if_false, bodyCt, wE_v, wE_g, wE_k, wE_op, wE_neg, wE_cmp, wE_isN, wE_ch, wE_nt, wE_bo, wE_ife, wE_tup, wE_lst, wE_dnew, wE_ix, wE_sl, wE_call, wE_bf, wE_mut, wE_comp, onEn_val, onEn_own, onEn_bor, res_val, res_obj, res_slot, frz_val, frz_obj, frz_slot, retR_val, retR_obj, retR_slot, objAt_w, isObj_w, isLst_w, putOb_w, agEn_d, agEn_s, setV_w, setEn_no, setEn_val, setEn_own, isNEn_d, isNEn_o, asB_b, onVal_v, setR_val, setR_obj, setR_slot, setRs_nil, setRs_cons, setVs_nil, setVs_cons, asgT_one, asgT_tup, extS_l, opt_s, wFs_nil, wFs_cons, wOs_nil, wOs_cons, wAs_nil, wAs_cons, wAs_bor, wBo_one, wBo_cons, wPart_nil, wPart_one, wCond_nil, wCond_one, wIt_rng1, wIt_rng2, wIt_seq, onInt_i, onSeq_l, onSeq_t, onTup_t, wSs_nil, wSs_cons, wS_set, wS_setT, wS_par, wS_setI, wS_aug, augEn_val, augEn_own, wS_augI, wS_ex, wS_ret, wS_retN, wS_ifs, wS_fo, wS_brk, wS_pas, ix_t, ix_l, ix_o, sl_t, sl_l, sl_o, o_add, o_sub, o_mul, o_fdiv, o_mod, o_pow, o_addT, o_addDD, o_addDO, o_addOD, o_addOO, neg_i, c_lt, c_le, c_gt, c_ge, c_eqI, c_neI, f_lenT, f_lenL, f_lenO, f_int, f_intB, f_abs, f_max2, f_min2, f_tupT, f_tupL, f_tupO, f_lstT, f_lstL, f_lstO, f_isB, f_isI, f_isS, f_isT, f_sumL, f_sumT, f_maxO, f_minO, f_maxT, f_minT, f_sortO, f_setO, mm_app, mm_rev, mm_pop, si_l, get_0, get_s, resEn_own, resEn_bor, resEn_val, frzEn_own, frzEn_val, retEn_own, retEn_val, objEn_own, objEn_bor, isObEn_own, isObEn_bor, isLsEn_own, isLsEn_bor, putEn_own, putEn_bor, agEn_own, agEn_bor, ag_nil, ag_one, true_and, and_true, vB, List.replicate, List.length_cons, List.length_nil, List.cons_append, List.nil_append, List.set, List.map_cons, List.map_nil, agSlots, putObs, notSlot_val, notSlot_obj, List.all_cons, List.all_nil, Bool.and_self, Bool.and_true, outsFrom, obOf_bor, obOf_own, wipeE, back, isBd, isId, isSd, isTd, noneB, g0, g1, g2, g3, g4, g5, g6, g7, g8, g9, g10, g11, g13, g14, g15, g16, g17, g18, g19, g20, g21, g22, g23]
    rw [List.drop_eq_nil_of_le (by omega)] at hl
    rw [← hl] at h
    simpa [lifts] using h
theorem fm_len {α β : Type} (p : α → Bool) (c : β) (l : List α) : (l.filterMap fun a => if p a = true then some c else none).length = (l.filter p).length := by
  induction l with
  | nil => rfl
  | cons a l ih => by_cases h : p a = true <;> simp [h, ih]
def shM (s : P2) (m : Mv) : Mv := (seen s m.1, seen s m.2.1, m.2.2)
theorem sm_seen {s p : P2} (h1 : Sm s.1 ∧ Sm s.2) (h2 : Sm p.1 ∧ Sm p.2) : SmP (seen s p) := by
  obtain ⟨⟨a1, a2⟩, a3, a4⟩ := h1
  obtain ⟨⟨b1, b2⟩, b3, b4⟩ := h2
  exact ⟨⟨by show _ < p.1 - s.1; omega, by show p.1 - s.1 < _; omega⟩, ⟨by show _ < p.2 - s.2; omega, by show p.2 - s.2 < _; omega⟩⟩
theorem s_lifted {es : List En} {K : Rs → List Ob → Prop} (h : ctLifted es K) : bodyCt Γ 7 ir_lifted_from es K := by
  obtain ⟨st, s, ms, rfl, ⟨hs, hp, hm⟩, h⟩ := h
  unfold ir_lifted_from eMs
  simp only [bodyCt, wE_v, wE_g, wE_k, wE_op, wE_neg, wE_cmp, wE_isN, wE_ch, wE_nt, wE_bo, wE_ife, wE_tup, wE_lst, wE_dnew, wE_ix, wE_sl, wE_call, wE_bf, wE_mut, wE_comp, onEn_val, onEn_own, onEn_bor, res_val, res_obj, res_slot, frz_val, frz_obj, frz_slot, retR_val, retR_obj, retR_slot, objAt_w, isObj_w, isLst_w, putOb_w, agEn_d, agEn_s, setV_w, setEn_no, setEn_val, setEn_own, isNEn_d, isNEn_o, asB_b, onVal_v, setR_val, setR_obj, setR_slot, setRs_nil, setRs_cons, setVs_nil, setVs_cons, asgT_one, asgT_tup, extS_l, opt_s, wFs_nil, wFs_cons, wOs_nil, wOs_cons, wAs_nil, wAs_cons, wAs_bor, wBo_one, wBo_cons, wPart_nil, wPart_one, wCond_nil, wCond_one, wIt_rng1, wIt_rng2, wIt_seq, onInt_i, onSeq_l, onSeq_t, onTup_t, wSs_nil, wSs_cons, wS_set, wS_setT, wS_par, wS_setI, wS_aug, augEn_val, augEn_own, wS_augI, wS_ex, wS_ret, wS_retN, wS_ifs, wS_fo, wS_brk, wS_pas, ix_t, ix_l, ix_o, sl_t, sl_l, sl_o, o_add, o_sub, o_mul, o_fdiv, o_mod, o_pow, o_addT, o_addDD, o_addDO, o_addOD, o_addOO, neg_i, c_lt, c_le, c_gt, c_ge, c_eqI, c_neI, f_lenT, f_lenL, f_lenO, f_int, f_intB, f_abs, f_max2, f_min2, f_tupT, f_tupL, f_tupO, f_lstT, f_lstL, f_lstO, f_isB, f_isI, f_isS, f_isT, f_sumL, f_sumT, f_maxO, f_minO, f_maxT, f_minT, f_sortO, f_setO, mm_app, mm_rev, mm_pop, si_l, get_0, get_s, resEn_own, resEn_bor, resEn_val, frzEn_own, frzEn_val, retEn_own, retEn_val, objEn_own, objEn_bor, isObEn_own, isObEn_bor, isLsEn_own, isLsEn_bor, putEn_own, putEn_bor, agEn_own, agEn_bor, ag_nil, ag_one, true_and, and_true, vB, List.replicate, List.length_cons, List.length_nil, List.cons_append, List.nil_append, List.set, List.map_cons, List.map_nil, agSlots, putObs, notSlot_val, notSlot_obj, List.all_cons, List.all_nil, Bool.and_self, Bool.and_true, outsFrom, obOf_bor, obOf_own, wipeE, back, isBd, isId, isSd, isTd, noneB]
  refine ⟨by simp [noObj, Ev.get], ?_⟩
  refine wComp_pure eM (fun m => some (eM (shM s m))) ms _ (fun m _ kt kf h1 h2 => ?_) ?_
  · simp only [eM, bodyCt, wE_v, wE_g, wE_k, wE_op, wE_neg, wE_cmp, wE_isN, wE_ch, wE_nt, wE_bo, wE_ife, wE_tup, wE_lst, wE_dnew, wE_ix, wE_sl, wE_call, wE_bf, wE_mut, wE_comp, onEn_val, onEn_own, onEn_bor, res_val, res_obj, res_slot, frz_val, frz_obj, frz_slot, retR_val, retR_obj, retR_slot, objAt_w, isObj_w, isLst_w, putOb_w, agEn_d, agEn_s, setV_w, setEn_no, setEn_val, setEn_own, isNEn_d, isNEn_o, asB_b, onVal_v, setR_val, setR_obj, setR_slot, setRs_nil, setRs_cons, setVs_nil, setVs_cons, asgT_one, asgT_tup, extS_l, opt_s, wFs_nil, wFs_cons, wOs_nil, wOs_cons, wAs_nil, wAs_cons, wAs_bor, wBo_one, wBo_cons, wPart_nil, wPart_one, wCond_nil, wCond_one, wIt_rng1, wIt_rng2, wIt_seq, onInt_i, onSeq_l, onSeq_t, onTup_t, wSs_nil, wSs_cons, wS_set, wS_setT, wS_par, wS_setI, wS_aug, augEn_val, augEn_own, wS_augI, wS_ex, wS_ret, wS_retN, wS_ifs, wS_fo, wS_brk, wS_pas, ix_t, ix_l, ix_o, sl_t, sl_l, sl_o, o_add, o_sub, o_mul, o_fdiv, o_mod, o_pow, o_addT, o_addDD, o_addDO, o_addOD, o_addOO, neg_i, c_lt, c_le, c_gt, c_ge, c_eqI, c_neI, f_lenT, f_lenL, f_lenO, f_int, f_intB, f_abs, f_max2, f_min2, f_tupT, f_tupL, f_tupO, f_lstT, f_lstL, f_lstO, f_isB, f_isI, f_isS, f_isT, f_sumL, f_sumT, f_maxO, f_minO, f_maxT, f_minT, f_sortO, f_setO, mm_app, mm_rev, mm_pop, si_l, get_0, get_s, resEn_own, resEn_bor, resEn_val, frzEn_own, frzEn_val, retEn_own, retEn_val, objEn_own, objEn_bor, isObEn_own, isObEn_bor, isLsEn_own, isLsEn_bor, putEn_own, putEn_bor, agEn_own, agEn_bor, ag_nil, ag_one, true_and, and_true, vB, List.replicate, List.length_cons, List.length_nil, List.cons_append, List.nil_append, List.set, List.map_cons, List.map_nil, agSlots, putObs, notSlot_val, notSlot_obj, List.all_cons, List.all_nil, Bool.and_self, Bool.and_true, outsFrom, obOf_bor, obOf_own, wipeE, back, isBd, isId, isSd, isTd, noneB, if_true]
    refine ⟨s, m.1, rfl, rfl, ?_⟩
    simp only [bodyCt, wE_v, wE_g, wE_k, wE_op, wE_neg, wE_cmp, wE_isN, wE_ch, wE_nt, wE_bo, wE_ife, wE_tup, wE_lst, wE_dnew, wE_ix, wE_sl, wE_call, wE_bf, wE_mut, wE_comp, onEn_val, onEn_own, onEn_bor, res_val, res_obj, res_slot, frz_val, frz_obj, frz_slot, retR_val, retR_obj, retR_slot, objAt_w, isObj_w, isLst_w, putOb_w, agEn_d, agEn_s, setV_w, setEn_no, setEn_val, setEn_own, isNEn_d, isNEn_o, asB_b, onVal_v, setR_val, setR_obj, setR_slot, setRs_nil, setRs_cons, setVs_nil, setVs_cons, asgT_one, asgT_tup, extS_l, opt_s, wFs_nil, wFs_cons, wOs_nil, wOs_cons, wAs_nil, wAs_cons, wAs_bor, wBo_one, wBo_cons, wPart_nil, wPart_one, wCond_nil, wCond_one, wIt_rng1, wIt_rng2, wIt_seq, onInt_i, onSeq_l, onSeq_t, onTup_t, wSs_nil, wSs_cons, wS_set, wS_setT, wS_par, wS_setI, wS_aug, augEn_val, augEn_own, wS_augI, wS_ex, wS_ret, wS_retN, wS_ifs, wS_fo, wS_brk, wS_pas, ix_t, ix_l, ix_o, sl_t, sl_l, sl_o, o_add, o_sub, o_mul, o_fdiv, o_mod, o_pow, o_addT, o_addDD, o_addDO, o_addOD, o_addOO, neg_i, c_lt, c_le, c_gt, c_ge, c_eqI, c_neI, f_lenT, f_lenL, f_lenO, f_int, f_intB, f_abs, f_max2, f_min2, f_tupT, f_tupL, f_tupO, f_lstT, f_lstL, f_lstO, f_isB, f_isI, f_isS, f_isT, f_sumL, f_sumT, f_maxO, f_minO, f_maxT, f_minT, f_sortO, f_setO, mm_app, mm_rev, mm_pop, si_l, get_0, get_s, resEn_own, resEn_bor, resEn_val, frzEn_own, frzEn_val, retEn_own, retEn_val, objEn_own, objEn_bor, isObEn_own, isObEn_bor, isLsEn_own, isLsEn_bor, putEn_own, putEn_bor, agEn_own, agEn_bor, ag_nil, ag_one, true_and, and_true, vB, List.replicate, List.length_cons, List.length_nil, List.cons_append, List.nil_append, List.set, List.map_cons, List.map_nil, agSlots, putObs, notSlot_val, notSlot_obj, List.all_cons, List.all_nil, Bool.and_self, Bool.and_true, outsFrom, obOf_bor, obOf_own, wipeE, back, isBd, isId, isSd, isTd, noneB]
    refine ⟨s, m.2.1, rfl, rfl, ?_⟩
    simp only [bodyCt, wE_v, wE_g, wE_k, wE_op, wE_neg, wE_cmp, wE_isN, wE_ch, wE_nt, wE_bo, wE_ife, wE_tup, wE_lst, wE_dnew, wE_ix, wE_sl, wE_call, wE_bf, wE_mut, wE_comp, onEn_val, onEn_own, onEn_bor, res_val, res_obj, res_slot, frz_val, frz_obj, frz_slot, retR_val, retR_obj, retR_slot, objAt_w, isObj_w, isLst_w, putOb_w, agEn_d, agEn_s, setV_w, setEn_no, setEn_val, setEn_own, isNEn_d, isNEn_o, asB_b, onVal_v, setR_val, setR_obj, setR_slot, setRs_nil, setRs_cons, setVs_nil, setVs_cons, asgT_one, asgT_tup, extS_l, opt_s, wFs_nil, wFs_cons, wOs_nil, wOs_cons, wAs_nil, wAs_cons, wAs_bor, wBo_one, wBo_cons, wPart_nil, wPart_one, wCond_nil, wCond_one, wIt_rng1, wIt_rng2, wIt_seq, onInt_i, onSeq_l, onSeq_t, onTup_t, wSs_nil, wSs_cons, wS_set, wS_setT, wS_par, wS_setI, wS_aug, augEn_val, augEn_own, wS_augI, wS_ex, wS_ret, wS_retN, wS_ifs, wS_fo, wS_brk, wS_pas, ix_t, ix_l, ix_o, sl_t, sl_l, sl_o, o_add, o_sub, o_mul, o_fdiv, o_mod, o_pow, o_addT, o_addDD, o_addDO, o_addOD, o_addOO, neg_i, c_lt, c_le, c_gt, c_ge, c_eqI, c_neI, f_lenT, f_lenL, f_lenO, f_int, f_intB, f_abs, f_max2, f_min2, f_tupT, f_tupL, f_tupO, f_lstT, f_lstL, f_lstO, f_isB, f_isI, f_isS, f_isT, f_sumL, f_sumT, f_maxO, f_minO, f_maxT, f_minT, f_sortO, f_setO, mm_app, mm_rev, mm_pop, si_l, get_0, get_s, resEn_own, resEn_bor, resEn_val, frzEn_own, frzEn_val, retEn_own, retEn_val, objEn_own, objEn_bor, isObEn_own, isObEn_bor, isLsEn_own, isLsEn_bor, putEn_own, putEn_bor, agEn_own, agEn_bor, ag_nil, ag_one, true_and, and_true, vB, List.replicate, List.length_cons, List.length_nil, List.cons_append, List.nil_append, List.set, List.map_cons, List.map_nil, agSlots, putObs, notSlot_val, notSlot_obj, List.all_cons, List.all_nil, Bool.and_self, Bool.and_true, outsFrom, obOf_bor, obOf_own, wipeE, back, isBd, isId, isSd, isTd, noneB]
    exact ⟨by decide, h1 _ _ rfl rfl⟩
  · rw [fm_some]
    simp only [bodyCt, wE_v, wE_g, wE_k, wE_op, wE_neg, wE_cmp, wE_isN, wE_ch, wE_nt, wE_bo, wE_ife, wE_tup, wE_lst, wE_dnew, wE_ix, wE_sl, wE_call, wE_bf, wE_mut, wE_comp, onEn_val, onEn_own, onEn_bor, res_val, res_obj, res_slot, frz_val, frz_obj, frz_slot, retR_val, retR_obj, retR_slot, objAt_w, isObj_w, isLst_w, putOb_w, agEn_d, agEn_s, setV_w, setEn_no, setEn_val, setEn_own, isNEn_d, isNEn_o, asB_b, onVal_v, setR_val, setR_obj, setR_slot, setRs_nil, setRs_cons, setVs_nil, setVs_cons, asgT_one, asgT_tup, extS_l, opt_s, wFs_nil, wFs_cons, wOs_nil, wOs_cons, wAs_nil, wAs_cons, wAs_bor, wBo_one, wBo_cons, wPart_nil, wPart_one, wCond_nil, wCond_one, wIt_rng1, wIt_rng2, wIt_seq, onInt_i, onSeq_l, onSeq_t, onTup_t, wSs_nil, wSs_cons, wS_set, wS_setT, wS_par, wS_setI, wS_aug, augEn_val, augEn_own, wS_augI, wS_ex, wS_ret, wS_retN, wS_ifs, wS_fo, wS_brk, wS_pas, ix_t, ix_l, ix_o, sl_t, sl_l, sl_o, o_add, o_sub, o_mul, o_fdiv, o_mod, o_pow, o_addT, o_addDD, o_addDO, o_addOD, o_addOO, neg_i, c_lt, c_le, c_gt, c_ge, c_eqI, c_neI, f_lenT, f_lenL, f_lenO, f_int, f_intB, f_abs, f_max2, f_min2, f_tupT, f_tupL, f_tupO, f_lstT, f_lstL, f_lstO, f_isB, f_isI, f_isS, f_isT, f_sumL, f_sumT, f_maxO, f_minO, f_maxT, f_minT, f_sortO, f_setO, mm_app, mm_rev, mm_pop, si_l, get_0, get_s, resEn_own, resEn_bor, resEn_val, frzEn_own, frzEn_val, retEn_own, retEn_val, objEn_own, objEn_bor, isObEn_own, isObEn_bor, isLsEn_own, isLsEn_bor, putEn_own, putEn_bor, agEn_own, agEn_bor, ag_nil, ag_one, true_and, and_true, vB, List.replicate, List.length_cons, List.length_nil, List.cons_append, List.nil_append, List.set, List.map_cons, List.map_nil, agSlots, putObs, notSlot_val, notSlot_obj, List.all_cons, List.all_nil, Bool.and_self, Bool.and_true, outsFrom, obOf_bor, obOf_own, wipeE, back, isBd, isId, isSd, isTd, noneB]
    refine ⟨by simp [noObj, Ev.get], ?_⟩
    rw [show (ms.map fun a => eM (shM s a)) = (ms.map (shM s)).map eM by rw [List.map_map]; rfl]
    refine wComp_pure eM (fun m => if canLift st m.1 m.2.1 m.2.2 = true then some (.int 1) else none) (ms.map (shM s)) _ (fun m hmm kt kf h1 h2 => ?_) ?_
    · obtain ⟨m', hm', rfl⟩ := List.mem_map.mp hmm
      have g := hm.1 m' hm'
      simp only [eM, bodyCt, wE_v, wE_g, wE_k, wE_op, wE_neg, wE_cmp, wE_isN, wE_ch, wE_nt, wE_bo, wE_ife, wE_tup, wE_lst, wE_dnew, wE_ix, wE_sl, wE_call, wE_bf, wE_mut, wE_comp, onEn_val, onEn_own, onEn_bor, res_val, res_obj, res_slot, frz_val, frz_obj, frz_slot, retR_val, retR_obj, retR_slot, objAt_w, isObj_w, isLst_w, putOb_w, agEn_d, agEn_s, setV_w, setEn_no, setEn_val, setEn_own, isNEn_d, isNEn_o, asB_b, onVal_v, setR_val, setR_obj, setR_slot, setRs_nil, setRs_cons, setVs_nil, setVs_cons, asgT_one, asgT_tup, extS_l, opt_s, wFs_nil, wFs_cons, wOs_nil, wOs_cons, wAs_nil, wAs_cons, wAs_bor, wBo_one, wBo_cons, wPart_nil, wPart_one, wCond_nil, wCond_one, wIt_rng1, wIt_rng2, wIt_seq, onInt_i, onSeq_l, onSeq_t, onTup_t, wSs_nil, wSs_cons, wS_set, wS_setT, wS_par, wS_setI, wS_aug, augEn_val, augEn_own, wS_augI, wS_ex, wS_ret, wS_retN, wS_ifs, wS_fo, wS_brk, wS_pas, ix_t, ix_l, ix_o, sl_t, sl_l, sl_o, o_add, o_sub, o_mul, o_fdiv, o_mod, o_pow, o_addT, o_addDD, o_addDO, o_addOD, o_addOO, neg_i, c_lt, c_le, c_gt, c_ge, c_eqI, c_neI, f_lenT, f_lenL, f_lenO, f_int, f_intB, f_abs, f_max2, f_min2, f_tupT, f_tupL, f_tupO, f_lstT, f_lstL, f_lstO, f_isB, f_isI, f_isS, f_isT, f_sumL, f_sumT, f_maxO, f_minO, f_maxT, f_minT, f_sortO, f_setO, mm_app, mm_rev, mm_pop, si_l, get_0, get_s, resEn_own, resEn_bor, resEn_val, frzEn_own, frzEn_val, retEn_own, retEn_val, objEn_own, objEn_bor, isObEn_own, isObEn_bor, isLsEn_own, isLsEn_bor, putEn_own, putEn_bor, agEn_own, agEn_bor, ag_nil, ag_one, true_and, and_true, vB, List.replicate, List.length_cons, List.length_nil, List.cons_append, List.nil_append, List.set, List.map_cons, List.map_nil, agSlots, putObs, notSlot_val, notSlot_obj, List.all_cons, List.all_nil, Bool.and_self, Bool.and_true, outsFrom, obOf_bor, obOf_own, wipeE, back, isBd, isId, isSd, isTd, noneB]
      refine ⟨st, seen s m'.1, seen s m'.2.1, m'.2.2, rfl, ⟨hs, sm_seen hp g.1, sm_seen hp g.2⟩, rfl, ?_⟩
      simp only [bodyCt, wE_v, wE_g, wE_k, wE_op, wE_neg, wE_cmp, wE_isN, wE_ch, wE_nt, wE_bo, wE_ife, wE_tup, wE_lst, wE_dnew, wE_ix, wE_sl, wE_call, wE_bf, wE_mut, wE_comp, onEn_val, onEn_own, onEn_bor, res_val, res_obj, res_slot, frz_val, frz_obj, frz_slot, retR_val, retR_obj, retR_slot, objAt_w, isObj_w, isLst_w, putOb_w, agEn_d, agEn_s, setV_w, setEn_no, setEn_val, setEn_own, isNEn_d, isNEn_o, asB_b, onVal_v, setR_val, setR_obj, setR_slot, setRs_nil, setRs_cons, setVs_nil, setVs_cons, asgT_one, asgT_tup, extS_l, opt_s, wFs_nil, wFs_cons, wOs_nil, wOs_cons, wAs_nil, wAs_cons, wAs_bor, wBo_one, wBo_cons, wPart_nil, wPart_one, wCond_nil, wCond_one, wIt_rng1, wIt_rng2, wIt_seq, onInt_i, onSeq_l, onSeq_t, onTup_t, wSs_nil, wSs_cons, wS_set, wS_setT, wS_par, wS_setI, wS_aug, augEn_val, augEn_own, wS_augI, wS_ex, wS_ret, wS_retN, wS_ifs, wS_fo, wS_brk, wS_pas, ix_t, ix_l, ix_o, sl_t, sl_l, sl_o, o_add, o_sub, o_mul, o_fdiv, o_mod, o_pow, o_addT, o_addDD, o_addDO, o_addOD, o_addOO, neg_i, c_lt, c_le, c_gt, c_ge, c_eqI, c_neI, f_lenT, f_lenL, f_lenO, f_int, f_intB, f_abs, f_max2, f_min2, f_tupT, f_tupL, f_tupO, f_lstT, f_lstL, f_lstO, f_isB, f_isI, f_isS, f_isT, f_sumL, f_sumT, f_maxO, f_minO, f_maxT, f_minT, f_sortO, f_setO, mm_app, mm_rev, mm_pop, si_l, get_0, get_s, resEn_own, resEn_bor, resEn_val, frzEn_own, frzEn_val, retEn_own, retEn_val, objEn_own, objEn_bor, isObEn_own, isObEn_bor, isLsEn_own, isLsEn_bor, putEn_own, putEn_bor, agEn_own, agEn_bor, ag_nil, ag_one, true_and, and_true, vB, List.replicate, List.length_cons, List.length_nil, List.cons_append, List.nil_append, List.set, List.map_cons, List.map_nil, agSlots, putObs, notSlot_val, notSlot_obj, List.all_cons, List.all_nil, Bool.and_self, Bool.and_true, outsFrom, obOf_bor, obOf_own, wipeE, back, isBd, isId, isSd, isTd, noneB]
      by_cases c : canLift st (seen s m'.1) (seen s m'.2.1) m'.2.2 = true
      · rw [if_pos c]
        exact h1 _ _ (if_pos c) rfl
      · rw [if_neg c]
        exact h2 _ (if_neg c) rfl
    · simp only [bodyCt, wE_v, wE_g, wE_k, wE_op, wE_neg, wE_cmp, wE_isN, wE_ch, wE_nt, wE_bo, wE_ife, wE_tup, wE_lst, wE_dnew, wE_ix, wE_sl, wE_call, wE_bf, wE_mut, wE_comp, onEn_val, onEn_own, onEn_bor, res_val, res_obj, res_slot, frz_val, frz_obj, frz_slot, retR_val, retR_obj, retR_slot, objAt_w, isObj_w, isLst_w, putOb_w, agEn_d, agEn_s, setV_w, setEn_no, setEn_val, setEn_own, isNEn_d, isNEn_o, asB_b, onVal_v, setR_val, setR_obj, setR_slot, setRs_nil, setRs_cons, setVs_nil, setVs_cons, asgT_one, asgT_tup, extS_l, opt_s, wFs_nil, wFs_cons, wOs_nil, wOs_cons, wAs_nil, wAs_cons, wAs_bor, wBo_one, wBo_cons, wPart_nil, wPart_one, wCond_nil, wCond_one, wIt_rng1, wIt_rng2, wIt_seq, onInt_i, onSeq_l, onSeq_t, onTup_t, wSs_nil, wSs_cons, wS_set, wS_setT, wS_par, wS_setI, wS_aug, augEn_val, augEn_own, wS_augI, wS_ex, wS_ret, wS_retN, wS_ifs, wS_fo, wS_brk, wS_pas, ix_t, ix_l, ix_o, sl_t, sl_l, sl_o, o_add, o_sub, o_mul, o_fdiv, o_mod, o_pow, o_addT, o_addDD, o_addDO, o_addOD, o_addOO, neg_i, c_lt, c_le, c_gt, c_ge, c_eqI, c_neI, f_lenT, f_lenL, f_lenO, f_int, f_intB, f_abs, f_max2, f_min2, f_tupT, f_tupL, f_tupO, f_lstT, f_lstL, f_lstO, f_isB, f_isI, f_isS, f_isT, f_sumL, f_sumT, f_maxO, f_minO, f_maxT, f_minT, f_sortO, f_setO, mm_app, mm_rev, mm_pop, si_l, get_0, get_s, resEn_own, resEn_bor, resEn_val, frzEn_own, frzEn_val, retEn_own, retEn_val, objEn_own, objEn_bor, isObEn_own, isObEn_bor, isLsEn_own, isLsEn_bor, putEn_own, putEn_bor, agEn_own, agEn_bor, ag_nil, ag_one, true_and, and_true, vB, List.replicate, List.length_cons, List.length_nil, List.cons_append, List.nil_append, List.set, List.map_cons, List.map_nil, agSlots, putObs, notSlot_val, notSlot_obj, List.all_cons, List.all_nil, Bool.and_self, Bool.and_true, outsFrom, obOf_bor, obOf_own, wipeE, back, isBd, isId, isSd, isTd, noneB, fm_len]
      have e : ((ms.map (shM s)).filter fun m => canLift st m.1 m.2.1 m.2.2).length = (lifted st s ms).length := by
        rw [List.filter_map, List.length_map]; rfl
      rw [e]
      exact h
theorem f_minD {x : PyData} {r : List PyData} {kr : Rs → Prop} (h : allI (x :: r) = none) : semF .min [.o (.lst (x :: r))] kr = (CmpAll (x :: r) ∧ kr (.val (W.minD x r))) := by
  show (match allI (x :: r), x :: r with
    | some ns, _ => ns ≠ [] ∧ kr (.val (.int (minI ns)))
    | none, x :: r => CmpAll (x :: r) ∧ kr (.val (W.minD x r))
    | none, [] => False) = _
  rw [h]
/-- the told pairs can be compared -/
theorem cmp_told (l : List (Int × P2)) : CmpAll (l.map fun p => .tuple [.int p.1, eP p.2]) := by
  refine ⟨⟨fun x hx y hy => ?_, fun x hx => ?_⟩, ?_⟩
  · obtain ⟨i, _, rfl⟩ := List.mem_map.mp hx
    obtain ⟨j, _, rfl⟩ := List.mem_map.mp hy
    rfl
  · obtain ⟨i, _, rfl⟩ := List.mem_map.mp hx
    exact fun z => by cases z
  · have e1 : ∀ l : List (Int × P2), PyData.canLayAll0 (l.map fun p => .tuple [.int p.1, eP p.2]) = true := fun l => by
      induction l with
      | nil => rfl
      | cons a l ih => simp only [List.map_cons, PyData.canLayAll0, ih, Bool.and_true]; rfl
    have e2 : ∀ l : List (Int × P2), PyData.depthAll (l.map fun p => .tuple [.int p.1, eP p.2]) ≤ 2 := fun l => by
      induction l with
      | nil => exact Nat.zero_le _
      | cons a l ih =>
        simp only [List.map_cons, PyData.depthAll]
        exact Nat.max_le.mpr ⟨Nat.le_refl _, ih⟩
    unfold SeqAt.shaped
    rw [Bool.and_eq_true]
    refine ⟨e1 l, decide_eq_true ?_⟩
    have := e2 l
    simp only [PyData.depth]
    omega
def prs (st ss : List P2) (ms : List Mv) : List (Int × P2) := ss.map fun s => (-((lifted st s ms).length : Nat), s)
theorem told_prs (st ss : List P2) (ms : List Mv) : told st ss ms = (prs st ss ms).map fun p => .tuple [.int p.1, eP p.2] := by
  unfold told prs
  rw [List.map_map]; rfl
theorem minD_mem (x : PyData) (r : List PyData) : W.minD x r ∈ x :: r := foldSel_mem (fun y a => W.dataLt y a) r x
/-- the least told pair -/
theorem told_min {st ss : List P2} {ms : List Mv} {x : PyData} {r : List PyData} (e : told st ss ms = x :: r) : allI (x :: r) = none ∧ CmpAll (x :: r) ∧ ∃ a s, W.minD x r = .tuple [.int a, eP s] := by
  rw [told_prs] at e
  have mem := minD_mem x r
  rw [← e] at mem
  obtain ⟨p, _, hp⟩ := List.mem_map.mp mem
  have hx : x ∈ x :: r := List.mem_cons_self
  rw [← e] at hx
  obtain ⟨q, _, hq⟩ := List.mem_map.mp hx
  refine ⟨?_, by rw [← e]; exact cmp_told _, p.1, p.2, hp.symm⟩
  subst hq
  rfl
theorem s_best {es : List En} {K : Rs → List Ob → Prop} (h : ctBest es K) : bodyCt Γ 6 ir_best_stand es K := by
  obtain ⟨st, ss, ms, rfl, ⟨hs, hp, hm⟩, h⟩ := h
  unfold ir_best_stand
  rw [show (En.val (eS ss)) = .val (.tuple (ss.map eP)) from rfl]
  simp only [bodyCt, wE_v, wE_g, wE_k, wE_op, wE_neg, wE_cmp, wE_isN, wE_ch, wE_nt, wE_bo, wE_ife, wE_tup, wE_lst, wE_dnew, wE_ix, wE_sl, wE_call, wE_bf, wE_mut, wE_comp, onEn_val, onEn_own, onEn_bor, res_val, res_obj, res_slot, frz_val, frz_obj, frz_slot, retR_val, retR_obj, retR_slot, objAt_w, isObj_w, isLst_w, putOb_w, agEn_d, agEn_s, setV_w, setEn_no, setEn_val, setEn_own, isNEn_d, isNEn_o, asB_b, onVal_v, setR_val, setR_obj, setR_slot, setRs_nil, setRs_cons, setVs_nil, setVs_cons, asgT_one, asgT_tup, extS_l, opt_s, wFs_nil, wFs_cons, wOs_nil, wOs_cons, wAs_nil, wAs_cons, wAs_bor, wBo_one, wBo_cons, wPart_nil, wPart_one, wCond_nil, wCond_one, wIt_rng1, wIt_rng2, wIt_seq, onInt_i, onSeq_l, onSeq_t, onTup_t, wSs_nil, wSs_cons, wS_set, wS_setT, wS_par, wS_setI, wS_aug, augEn_val, augEn_own, wS_augI, wS_ex, wS_ret, wS_retN, wS_ifs, wS_fo, wS_brk, wS_pas, ix_t, ix_l, ix_o, sl_t, sl_l, sl_o, o_add, o_sub, o_mul, o_fdiv, o_mod, o_pow, o_addT, o_addDD, o_addDO, o_addOD, o_addOO, neg_i, c_lt, c_le, c_gt, c_ge, c_eqI, c_neI, f_lenT, f_lenL, f_lenO, f_int, f_intB, f_abs, f_max2, f_min2, f_tupT, f_tupL, f_tupO, f_lstT, f_lstL, f_lstO, f_isB, f_isI, f_isS, f_isT, f_sumL, f_sumT, f_maxO, f_minO, f_maxT, f_minT, f_sortO, f_setO, mm_app, mm_rev, mm_pop, si_l, get_0, get_s, resEn_own, resEn_bor, resEn_val, frzEn_own, frzEn_val, retEn_own, retEn_val, objEn_own, objEn_bor, isObEn_own, isObEn_bor, isLsEn_own, isLsEn_bor, putEn_own, putEn_bor, agEn_own, agEn_bor, ag_nil, ag_one, true_and, and_true, vB, List.replicate, List.length_cons, List.length_nil, List.cons_append, List.nil_append, List.set, List.map_cons, List.map_nil, agSlots, putObs, notSlot_val, notSlot_obj, List.all_cons, List.all_nil, Bool.and_self, Bool.and_true, outsFrom, obOf_bor, obOf_own, wipeE, back, isBd, isId, isSd, isTd, noneB]
  refine ⟨by simp [noObj, Ev.get], ?_⟩
  refine wComp_pure eP (fun s => some (.tuple [.int (-((lifted st s ms).length : Nat)), eP s])) ss _ (fun s hss kt kf h1 h2 => ?_) ?_
  · simp only [bodyCt, wE_v, wE_g, wE_k, wE_op, wE_neg, wE_cmp, wE_isN, wE_ch, wE_nt, wE_bo, wE_ife, wE_tup, wE_lst, wE_dnew, wE_ix, wE_sl, wE_call, wE_bf, wE_mut, wE_comp, onEn_val, onEn_own, onEn_bor, res_val, res_obj, res_slot, frz_val, frz_obj, frz_slot, retR_val, retR_obj, retR_slot, objAt_w, isObj_w, isLst_w, putOb_w, agEn_d, agEn_s, setV_w, setEn_no, setEn_val, setEn_own, isNEn_d, isNEn_o, asB_b, onVal_v, setR_val, setR_obj, setR_slot, setRs_nil, setRs_cons, setVs_nil, setVs_cons, asgT_one, asgT_tup, extS_l, opt_s, wFs_nil, wFs_cons, wOs_nil, wOs_cons, wAs_nil, wAs_cons, wAs_bor, wBo_one, wBo_cons, wPart_nil, wPart_one, wCond_nil, wCond_one, wIt_rng1, wIt_rng2, wIt_seq, onInt_i, onSeq_l, onSeq_t, onTup_t, wSs_nil, wSs_cons, wS_set, wS_setT, wS_par, wS_setI, wS_aug, augEn_val, augEn_own, wS_augI, wS_ex, wS_ret, wS_retN, wS_ifs, wS_fo, wS_brk, wS_pas, ix_t, ix_l, ix_o, sl_t, sl_l, sl_o, o_add, o_sub, o_mul, o_fdiv, o_mod, o_pow, o_addT, o_addDD, o_addDO, o_addOD, o_addOO, neg_i, c_lt, c_le, c_gt, c_ge, c_eqI, c_neI, f_lenT, f_lenL, f_lenO, f_int, f_intB, f_abs, f_max2, f_min2, f_tupT, f_tupL, f_tupO, f_lstT, f_lstL, f_lstO, f_isB, f_isI, f_isS, f_isT, f_sumL, f_sumT, f_maxO, f_minO, f_maxT, f_minT, f_sortO, f_setO, mm_app, mm_rev, mm_pop, si_l, get_0, get_s, resEn_own, resEn_bor, resEn_val, frzEn_own, frzEn_val, retEn_own, retEn_val, objEn_own, objEn_bor, isObEn_own, isObEn_bor, isLsEn_own, isLsEn_bor, putEn_own, putEn_bor, agEn_own, agEn_bor, ag_nil, ag_one, true_and, and_true, vB, List.replicate, List.length_cons, List.length_nil, List.cons_append, List.nil_append, List.set, List.map_cons, List.map_nil, agSlots, putObs, notSlot_val, notSlot_obj, List.all_cons, List.all_nil, Bool.and_self, Bool.and_true, outsFrom, obOf_bor, obOf_own, wipeE, back, isBd, isId, isSd, isTd, noneB, if_true]
    refine ⟨st, s, ms, rfl, ⟨hs, hp.1 s hss, hm⟩, rfl, ?_⟩
    simp only [bodyCt, wE_v, wE_g, wE_k, wE_op, wE_neg, wE_cmp, wE_isN, wE_ch, wE_nt, wE_bo, wE_ife, wE_tup, wE_lst, wE_dnew, wE_ix, wE_sl, wE_call, wE_bf, wE_mut, wE_comp, onEn_val, onEn_own, onEn_bor, res_val, res_obj, res_slot, frz_val, frz_obj, frz_slot, retR_val, retR_obj, retR_slot, objAt_w, isObj_w, isLst_w, putOb_w, agEn_d, agEn_s, setV_w, setEn_no, setEn_val, setEn_own, isNEn_d, isNEn_o, asB_b, onVal_v, setR_val, setR_obj, setR_slot, setRs_nil, setRs_cons, setVs_nil, setVs_cons, asgT_one, asgT_tup, extS_l, opt_s, wFs_nil, wFs_cons, wOs_nil, wOs_cons, wAs_nil, wAs_cons, wAs_bor, wBo_one, wBo_cons, wPart_nil, wPart_one, wCond_nil, wCond_one, wIt_rng1, wIt_rng2, wIt_seq, onInt_i, onSeq_l, onSeq_t, onTup_t, wSs_nil, wSs_cons, wS_set, wS_setT, wS_par, wS_setI, wS_aug, augEn_val, augEn_own, wS_augI, wS_ex, wS_ret, wS_retN, wS_ifs, wS_fo, wS_brk, wS_pas, ix_t, ix_l, ix_o, sl_t, sl_l, sl_o, o_add, o_sub, o_mul, o_fdiv, o_mod, o_pow, o_addT, o_addDD, o_addDO, o_addOD, o_addOO, neg_i, c_lt, c_le, c_gt, c_ge, c_eqI, c_neI, f_lenT, f_lenL, f_lenO, f_int, f_intB, f_abs, f_max2, f_min2, f_tupT, f_tupL, f_tupO, f_lstT, f_lstL, f_lstO, f_isB, f_isI, f_isS, f_isT, f_sumL, f_sumT, f_maxO, f_minO, f_maxT, f_minT, f_sortO, f_setO, mm_app, mm_rev, mm_pop, si_l, get_0, get_s, resEn_own, resEn_bor, resEn_val, frzEn_own, frzEn_val, retEn_own, retEn_val, objEn_own, objEn_bor, isObEn_own, isObEn_bor, isLsEn_own, isLsEn_bor, putEn_own, putEn_bor, agEn_own, agEn_bor, ag_nil, ag_one, true_and, and_true, vB, List.replicate, List.length_cons, List.length_nil, List.cons_append, List.nil_append, List.set, List.map_cons, List.map_nil, agSlots, putObs, notSlot_val, notSlot_obj, List.all_cons, List.all_nil, Bool.and_self, Bool.and_true, outsFrom, obOf_bor, obOf_own, wipeE, back, isBd, isId, isSd, isTd, noneB]
    exact ⟨by decide, h1 _ _ rfl rfl⟩
  · rw [fm_some, show (ss.map fun s => PyData.tuple [.int (-((lifted st s ms).length : Nat)), eP s]) = told st ss ms from rfl]
    unfold best at h
    cases e : told st ss ms with
    | nil =>
      rw [e] at h
      simp only [bodyCt, wE_v, wE_g, wE_k, wE_op, wE_neg, wE_cmp, wE_isN, wE_ch, wE_nt, wE_bo, wE_ife, wE_tup, wE_lst, wE_dnew, wE_ix, wE_sl, wE_call, wE_bf, wE_mut, wE_comp, onEn_val, onEn_own, onEn_bor, res_val, res_obj, res_slot, frz_val, frz_obj, frz_slot, retR_val, retR_obj, retR_slot, objAt_w, isObj_w, isLst_w, putOb_w, agEn_d, agEn_s, setV_w, setEn_no, setEn_val, setEn_own, isNEn_d, isNEn_o, asB_b, onVal_v, setR_val, setR_obj, setR_slot, setRs_nil, setRs_cons, setVs_nil, setVs_cons, asgT_one, asgT_tup, extS_l, opt_s, wFs_nil, wFs_cons, wOs_nil, wOs_cons, wAs_nil, wAs_cons, wAs_bor, wBo_one, wBo_cons, wPart_nil, wPart_one, wCond_nil, wCond_one, wIt_rng1, wIt_rng2, wIt_seq, onInt_i, onSeq_l, onSeq_t, onTup_t, wSs_nil, wSs_cons, wS_set, wS_setT, wS_par, wS_setI, wS_aug, augEn_val, augEn_own, wS_augI, wS_ex, wS_ret, wS_retN, wS_ifs, wS_fo, wS_brk, wS_pas, ix_t, ix_l, ix_o, sl_t, sl_l, sl_o, o_add, o_sub, o_mul, o_fdiv, o_mod, o_pow, o_addT, o_addDD, o_addDO, o_addOD, o_addOO, neg_i, c_lt, c_le, c_gt, c_ge, c_eqI, c_neI, f_lenT, f_lenL, f_lenO, f_int, f_intB, f_abs, f_max2, f_min2, f_tupT, f_tupL, f_tupO, f_lstT, f_lstL, f_lstO, f_isB, f_isI, f_isS, f_isT, f_sumL, f_sumT, f_maxO, f_minO, f_maxT, f_minT, f_sortO, f_setO, mm_app, mm_rev, mm_pop, si_l, get_0, get_s, resEn_own, resEn_bor, resEn_val, frzEn_own, frzEn_val, retEn_own, retEn_val, objEn_own, objEn_bor, isObEn_own, isObEn_bor, isLsEn_own, isLsEn_bor, putEn_own, putEn_bor, agEn_own, agEn_bor, ag_nil, ag_one, true_and, and_true, vB, List.replicate, List.length_cons, List.length_nil, List.cons_append, List.nil_append, List.set, List.map_cons, List.map_nil, agSlots, putObs, notSlot_val, notSlot_obj, List.all_cons, List.all_nil, Bool.and_self, Bool.and_true, outsFrom, obOf_bor, obOf_own, wipeE, back, isBd, isId, isSd, isTd, noneB]
      exact h
    | cons x r =>
      rw [e] at h
      obtain ⟨t1, t2, a, s, t3⟩ := told_min e
      have c2 : ¬ (((x :: r).length : Nat) : Int) = 0 := by rw [List.length_cons]; omega
      rw [List.length_cons] at c2
      simp only [bodyCt, wE_v, wE_g, wE_k, wE_op, wE_neg, wE_cmp, wE_isN, wE_ch, wE_nt, wE_bo, wE_ife, wE_tup, wE_lst, wE_dnew, wE_ix, wE_sl, wE_call, wE_bf, wE_mut, wE_comp, onEn_val, onEn_own, onEn_bor, res_val, res_obj, res_slot, frz_val, frz_obj, frz_slot, retR_val, retR_obj, retR_slot, objAt_w, isObj_w, isLst_w, putOb_w, agEn_d, agEn_s, setV_w, setEn_no, setEn_val, setEn_own, isNEn_d, isNEn_o, asB_b, onVal_v, setR_val, setR_obj, setR_slot, setRs_nil, setRs_cons, setVs_nil, setVs_cons, asgT_one, asgT_tup, extS_l, opt_s, wFs_nil, wFs_cons, wOs_nil, wOs_cons, wAs_nil, wAs_cons, wAs_bor, wBo_one, wBo_cons, wPart_nil, wPart_one, wCond_nil, wCond_one, wIt_rng1, wIt_rng2, wIt_seq, onInt_i, onSeq_l, onSeq_t, onTup_t, wSs_nil, wSs_cons, wS_set, wS_setT, wS_par, wS_setI, wS_aug, augEn_val, augEn_own, wS_augI, wS_ex, wS_ret, wS_retN, wS_ifs, wS_fo, wS_brk, wS_pas, ix_t, ix_l, ix_o, sl_t, sl_l, sl_o, o_add, o_sub, o_mul, o_fdiv, o_mod, o_pow, o_addT, o_addDD, o_addDO, o_addOD, o_addOO, neg_i, c_lt, c_le, c_gt, c_ge, c_eqI, c_neI, f_lenT, f_lenL, f_lenO, f_int, f_intB, f_abs, f_max2, f_min2, f_tupT, f_tupL, f_tupO, f_lstT, f_lstL, f_lstO, f_isB, f_isI, f_isS, f_isT, f_sumL, f_sumT, f_maxO, f_minO, f_maxT, f_minT, f_sortO, f_setO, mm_app, mm_rev, mm_pop, si_l, get_0, get_s, resEn_own, resEn_bor, resEn_val, frzEn_own, frzEn_val, retEn_own, retEn_val, objEn_own, objEn_bor, isObEn_own, isObEn_bor, isLsEn_own, isLsEn_bor, putEn_own, putEn_bor, agEn_own, agEn_bor, ag_nil, ag_one, true_and, and_true, vB, List.replicate, List.length_cons, List.length_nil, List.cons_append, List.nil_append, List.set, List.map_cons, List.map_nil, agSlots, putObs, notSlot_val, notSlot_obj, List.all_cons, List.all_nil, Bool.and_self, Bool.and_true, outsFrom, obOf_bor, obOf_own, wipeE, back, isBd, isId, isSd, isTd, noneB, c2, decide_false, Bool.false_eq_true, if_false, f_minD t1]
      refine ⟨t2, ?_⟩
      have h2 : K (.val (turnB (W.minD x r))) [] := h
      rw [t3] at h2 ⊢
      simp only [bodyCt, wE_v, wE_g, wE_k, wE_op, wE_neg, wE_cmp, wE_isN, wE_ch, wE_nt, wE_bo, wE_ife, wE_tup, wE_lst, wE_dnew, wE_ix, wE_sl, wE_call, wE_bf, wE_mut, wE_comp, onEn_val, onEn_own, onEn_bor, res_val, res_obj, res_slot, frz_val, frz_obj, frz_slot, retR_val, retR_obj, retR_slot, objAt_w, isObj_w, isLst_w, putOb_w, agEn_d, agEn_s, setV_w, setEn_no, setEn_val, setEn_own, isNEn_d, isNEn_o, asB_b, onVal_v, setR_val, setR_obj, setR_slot, setRs_nil, setRs_cons, setVs_nil, setVs_cons, asgT_one, asgT_tup, extS_l, opt_s, wFs_nil, wFs_cons, wOs_nil, wOs_cons, wAs_nil, wAs_cons, wAs_bor, wBo_one, wBo_cons, wPart_nil, wPart_one, wCond_nil, wCond_one, wIt_rng1, wIt_rng2, wIt_seq, onInt_i, onSeq_l, onSeq_t, onTup_t, wSs_nil, wSs_cons, wS_set, wS_setT, wS_par, wS_setI, wS_aug, augEn_val, augEn_own, wS_augI, wS_ex, wS_ret, wS_retN, wS_ifs, wS_fo, wS_brk, wS_pas, ix_t, ix_l, ix_o, sl_t, sl_l, sl_o, o_add, o_sub, o_mul, o_fdiv, o_mod, o_pow, o_addT, o_addDD, o_addDO, o_addOD, o_addOO, neg_i, c_lt, c_le, c_gt, c_ge, c_eqI, c_neI, f_lenT, f_lenL, f_lenO, f_int, f_intB, f_abs, f_max2, f_min2, f_tupT, f_tupL, f_tupO, f_lstT, f_lstL, f_lstO, f_isB, f_isI, f_isS, f_isT, f_sumL, f_sumT, f_maxO, f_minO, f_maxT, f_minT, f_sortO, f_setO, mm_app, mm_rev, mm_pop, si_l, get_0, get_s, resEn_own, resEn_bor, resEn_val, frzEn_own, frzEn_val, retEn_own, retEn_val, objEn_own, objEn_bor, isObEn_own, isObEn_bor, isLsEn_own, isLsEn_bor, putEn_own, putEn_bor, agEn_own, agEn_bor, ag_nil, ag_one, true_and, and_true, vB, List.replicate, List.length_cons, List.length_nil, List.cons_append, List.nil_append, List.set, List.map_cons, List.map_nil, agSlots, putObs, notSlot_val, notSlot_obj, List.all_cons, List.all_nil, Bool.and_self, Bool.and_true, outsFrom, obOf_bor, obOf_own, wipeE, back, isBd, isId, isSd, isTd, noneB]
      exact ⟨by decide, h2⟩
theorem s_two {es : List En} {K : Rs → List Ob → Prop} (h : ctTwo es K) : bodyCt Γ 7 ir_two_cranes es K := by
  obtain ⟨a, b, w, rfl, ⟨ha, hb⟩, h⟩ := h
  unfold ir_two_cranes eS
  have la := ha.2.2
  have lb := hb.2.2
  simp only [bodyCt, wE_v, wE_g, wE_k, wE_op, wE_neg, wE_cmp, wE_isN, wE_ch, wE_nt, wE_bo, wE_ife, wE_tup, wE_lst, wE_dnew, wE_ix, wE_sl, wE_call, wE_bf, wE_mut, wE_comp, onEn_val, onEn_own, onEn_bor, res_val, res_obj, res_slot, frz_val, frz_obj, frz_slot, retR_val, retR_obj, retR_slot, objAt_w, isObj_w, isLst_w, putOb_w, agEn_d, agEn_s, setV_w, setEn_no, setEn_val, setEn_own, isNEn_d, isNEn_o, asB_b, onVal_v, setR_val, setR_obj, setR_slot, setRs_nil, setRs_cons, setVs_nil, setVs_cons, asgT_one, asgT_tup, extS_l, opt_s, wFs_nil, wFs_cons, wOs_nil, wOs_cons, wAs_nil, wAs_cons, wAs_bor, wBo_one, wBo_cons, wPart_nil, wPart_one, wCond_nil, wCond_one, wIt_rng1, wIt_rng2, wIt_seq, onInt_i, onSeq_l, onSeq_t, onTup_t, wSs_nil, wSs_cons, wS_set, wS_setT, wS_par, wS_setI, wS_aug, augEn_val, augEn_own, wS_augI, wS_ex, wS_ret, wS_retN, wS_ifs, wS_fo, wS_brk, wS_pas, ix_t, ix_l, ix_o, sl_t, sl_l, sl_o, o_add, o_sub, o_mul, o_fdiv, o_mod, o_pow, o_addT, o_addDD, o_addDO, o_addOD, o_addOO, neg_i, c_lt, c_le, c_gt, c_ge, c_eqI, c_neI, f_lenT, f_lenL, f_lenO, f_int, f_intB, f_abs, f_max2, f_min2, f_tupT, f_tupL, f_tupO, f_lstT, f_lstL, f_lstO, f_isB, f_isI, f_isS, f_isT, f_sumL, f_sumT, f_maxO, f_minO, f_maxT, f_minT, f_sortO, f_setO, mm_app, mm_rev, mm_pop, si_l, get_0, get_s, resEn_own, resEn_bor, resEn_val, frzEn_own, frzEn_val, retEn_own, retEn_val, objEn_own, objEn_bor, isObEn_own, isObEn_bor, isLsEn_own, isLsEn_bor, putEn_own, putEn_bor, agEn_own, agEn_bor, ag_nil, ag_one, true_and, and_true, vB, List.replicate, List.length_cons, List.length_nil, List.cons_append, List.nil_append, List.set, List.map_cons, List.map_nil, agSlots, putObs, notSlot_val, notSlot_obj, List.all_cons, List.all_nil, Bool.and_self, Bool.and_true, outsFrom, obOf_bor, obOf_own, wipeE, back, isBd, isId, isSd, isTd, noneB, g0, g1, g2, g3, g4, g5, g6, g7, g8, g9, g10, g11, g13, g14, g15, g16, g17, g18, g19, g20, g21, g22, g23, List.length_map]
  refine ⟨by omega, by simp [noObj, Ev.get], ?_⟩
  rw [← List.map_append]
  refine wComp_pure eP (fun p => some (.int p.1)) (a ++ b) _ (fun p _ kt kf h1 h2 => ?_) ?_
  · simp only [eP, bodyCt, wE_v, wE_g, wE_k, wE_op, wE_neg, wE_cmp, wE_isN, wE_ch, wE_nt, wE_bo, wE_ife, wE_tup, wE_lst, wE_dnew, wE_ix, wE_sl, wE_call, wE_bf, wE_mut, wE_comp, onEn_val, onEn_own, onEn_bor, res_val, res_obj, res_slot, frz_val, frz_obj, frz_slot, retR_val, retR_obj, retR_slot, objAt_w, isObj_w, isLst_w, putOb_w, agEn_d, agEn_s, setV_w, setEn_no, setEn_val, setEn_own, isNEn_d, isNEn_o, asB_b, onVal_v, setR_val, setR_obj, setR_slot, setRs_nil, setRs_cons, setVs_nil, setVs_cons, asgT_one, asgT_tup, extS_l, opt_s, wFs_nil, wFs_cons, wOs_nil, wOs_cons, wAs_nil, wAs_cons, wAs_bor, wBo_one, wBo_cons, wPart_nil, wPart_one, wCond_nil, wCond_one, wIt_rng1, wIt_rng2, wIt_seq, onInt_i, onSeq_l, onSeq_t, onTup_t, wSs_nil, wSs_cons, wS_set, wS_setT, wS_par, wS_setI, wS_aug, augEn_val, augEn_own, wS_augI, wS_ex, wS_ret, wS_retN, wS_ifs, wS_fo, wS_brk, wS_pas, ix_t, ix_l, ix_o, sl_t, sl_l, sl_o, o_add, o_sub, o_mul, o_fdiv, o_mod, o_pow, o_addT, o_addDD, o_addDO, o_addOD, o_addOO, neg_i, c_lt, c_le, c_gt, c_ge, c_eqI, c_neI, f_lenT, f_lenL, f_lenO, f_int, f_intB, f_abs, f_max2, f_min2, f_tupT, f_tupL, f_tupO, f_lstT, f_lstL, f_lstO, f_isB, f_isI, f_isS, f_isT, f_sumL, f_sumT, f_maxO, f_minO, f_maxT, f_minT, f_sortO, f_setO, mm_app, mm_rev, mm_pop, si_l, get_0, get_s, resEn_own, resEn_bor, resEn_val, frzEn_own, frzEn_val, retEn_own, retEn_val, objEn_own, objEn_bor, isObEn_own, isObEn_bor, isLsEn_own, isLsEn_bor, putEn_own, putEn_bor, agEn_own, agEn_bor, ag_nil, ag_one, true_and, and_true, vB, List.replicate, List.length_cons, List.length_nil, List.cons_append, List.nil_append, List.set, List.map_cons, List.map_nil, agSlots, putObs, notSlot_val, notSlot_obj, List.all_cons, List.all_nil, Bool.and_self, Bool.and_true, outsFrom, obOf_bor, obOf_own, wipeE, back, isBd, isId, isSd, isTd, noneB, g0, g1, g2, g3, g4, g5, g6, g7, g8, g9, g10, g11, g13, g14, g15, g16, g17, g18, g19, g20, g21, g22, g23, if_true]
    exact h1 _ _ rfl rfl
  · rw [fm_some]
    simp only [bodyCt, wE_v, wE_g, wE_k, wE_op, wE_neg, wE_cmp, wE_isN, wE_ch, wE_nt, wE_bo, wE_ife, wE_tup, wE_lst, wE_dnew, wE_ix, wE_sl, wE_call, wE_bf, wE_mut, wE_comp, onEn_val, onEn_own, onEn_bor, res_val, res_obj, res_slot, frz_val, frz_obj, frz_slot, retR_val, retR_obj, retR_slot, objAt_w, isObj_w, isLst_w, putOb_w, agEn_d, agEn_s, setV_w, setEn_no, setEn_val, setEn_own, isNEn_d, isNEn_o, asB_b, onVal_v, setR_val, setR_obj, setR_slot, setRs_nil, setRs_cons, setVs_nil, setVs_cons, asgT_one, asgT_tup, extS_l, opt_s, wFs_nil, wFs_cons, wOs_nil, wOs_cons, wAs_nil, wAs_cons, wAs_bor, wBo_one, wBo_cons, wPart_nil, wPart_one, wCond_nil, wCond_one, wIt_rng1, wIt_rng2, wIt_seq, onInt_i, onSeq_l, onSeq_t, onTup_t, wSs_nil, wSs_cons, wS_set, wS_setT, wS_par, wS_setI, wS_aug, augEn_val, augEn_own, wS_augI, wS_ex, wS_ret, wS_retN, wS_ifs, wS_fo, wS_brk, wS_pas, ix_t, ix_l, ix_o, sl_t, sl_l, sl_o, o_add, o_sub, o_mul, o_fdiv, o_mod, o_pow, o_addT, o_addDD, o_addDO, o_addOD, o_addOO, neg_i, c_lt, c_le, c_gt, c_ge, c_eqI, c_neI, f_lenT, f_lenL, f_lenO, f_int, f_intB, f_abs, f_max2, f_min2, f_tupT, f_tupL, f_tupO, f_lstT, f_lstL, f_lstO, f_isB, f_isI, f_isS, f_isT, f_sumL, f_sumT, f_maxO, f_minO, f_maxT, f_minT, f_sortO, f_setO, mm_app, mm_rev, mm_pop, si_l, get_0, get_s, resEn_own, resEn_bor, resEn_val, frzEn_own, frzEn_val, retEn_own, retEn_val, objEn_own, objEn_bor, isObEn_own, isObEn_bor, isLsEn_own, isLsEn_bor, putEn_own, putEn_bor, agEn_own, agEn_bor, ag_nil, ag_one, true_and, and_true, vB, List.replicate, List.length_cons, List.length_nil, List.cons_append, List.nil_append, List.set, List.map_cons, List.map_nil, agSlots, putObs, notSlot_val, notSlot_obj, List.all_cons, List.all_nil, Bool.and_self, Bool.and_true, outsFrom, obOf_bor, obOf_own, wipeE, back, isBd, isId, isSd, isTd, noneB, g0, g1, g2, g3, g4, g5, g6, g7, g8, g9, g10, g11, g13, g14, g15, g16, g17, g18, g19, g20, g21, g22, g23]
    refine ⟨by simp [noObj, Ev.get], ?_⟩
    rw [show ((a ++ b).map fun p => PyData.int p.1) = ((a ++ b).map (·.1)).map PyData.int by rw [List.map_map]; rfl]
    refine wComp_pure PyData.int (fun r => ((if w ≤ bearsAt a r + bearsAt b r then some r else none : Option Int)).map PyData.int) ((a ++ b).map (·.1)) _ (fun r _ kt kf h1 h2 => ?_) ?_
    · simp only [bodyCt, wE_v, wE_g, wE_k, wE_op, wE_neg, wE_cmp, wE_isN, wE_ch, wE_nt, wE_bo, wE_ife, wE_tup, wE_lst, wE_dnew, wE_ix, wE_sl, wE_call, wE_bf, wE_mut, wE_comp, onEn_val, onEn_own, onEn_bor, res_val, res_obj, res_slot, frz_val, frz_obj, frz_slot, retR_val, retR_obj, retR_slot, objAt_w, isObj_w, isLst_w, putOb_w, agEn_d, agEn_s, setV_w, setEn_no, setEn_val, setEn_own, isNEn_d, isNEn_o, asB_b, onVal_v, setR_val, setR_obj, setR_slot, setRs_nil, setRs_cons, setVs_nil, setVs_cons, asgT_one, asgT_tup, extS_l, opt_s, wFs_nil, wFs_cons, wOs_nil, wOs_cons, wAs_nil, wAs_cons, wAs_bor, wBo_one, wBo_cons, wPart_nil, wPart_one, wCond_nil, wCond_one, wIt_rng1, wIt_rng2, wIt_seq, onInt_i, onSeq_l, onSeq_t, onTup_t, wSs_nil, wSs_cons, wS_set, wS_setT, wS_par, wS_setI, wS_aug, augEn_val, augEn_own, wS_augI, wS_ex, wS_ret, wS_retN, wS_ifs, wS_fo, wS_brk, wS_pas, ix_t, ix_l, ix_o, sl_t, sl_l, sl_o, o_add, o_sub, o_mul, o_fdiv, o_mod, o_pow, o_addT, o_addDD, o_addDO, o_addOD, o_addOO, neg_i, c_lt, c_le, c_gt, c_ge, c_eqI, c_neI, f_lenT, f_lenL, f_lenO, f_int, f_intB, f_abs, f_max2, f_min2, f_tupT, f_tupL, f_tupO, f_lstT, f_lstL, f_lstO, f_isB, f_isI, f_isS, f_isT, f_sumL, f_sumT, f_maxO, f_minO, f_maxT, f_minT, f_sortO, f_setO, mm_app, mm_rev, mm_pop, si_l, get_0, get_s, resEn_own, resEn_bor, resEn_val, frzEn_own, frzEn_val, retEn_own, retEn_val, objEn_own, objEn_bor, isObEn_own, isObEn_bor, isLsEn_own, isLsEn_bor, putEn_own, putEn_bor, agEn_own, agEn_bor, ag_nil, ag_one, true_and, and_true, vB, List.replicate, List.length_cons, List.length_nil, List.cons_append, List.nil_append, List.set, List.map_cons, List.map_nil, agSlots, putObs, notSlot_val, notSlot_obj, List.all_cons, List.all_nil, Bool.and_self, Bool.and_true, outsFrom, obOf_bor, obOf_own, wipeE, back, isBd, isId, isSd, isTd, noneB, g0, g1, g2, g3, g4, g5, g6, g7, g8, g9, g10, g11, g13, g14, g15, g16, g17, g18, g19, g20, g21, g22, g23]
      refine ⟨a, r, rfl, rfl, ?_⟩
      simp only [bodyCt, wE_v, wE_g, wE_k, wE_op, wE_neg, wE_cmp, wE_isN, wE_ch, wE_nt, wE_bo, wE_ife, wE_tup, wE_lst, wE_dnew, wE_ix, wE_sl, wE_call, wE_bf, wE_mut, wE_comp, onEn_val, onEn_own, onEn_bor, res_val, res_obj, res_slot, frz_val, frz_obj, frz_slot, retR_val, retR_obj, retR_slot, objAt_w, isObj_w, isLst_w, putOb_w, agEn_d, agEn_s, setV_w, setEn_no, setEn_val, setEn_own, isNEn_d, isNEn_o, asB_b, onVal_v, setR_val, setR_obj, setR_slot, setRs_nil, setRs_cons, setVs_nil, setVs_cons, asgT_one, asgT_tup, extS_l, opt_s, wFs_nil, wFs_cons, wOs_nil, wOs_cons, wAs_nil, wAs_cons, wAs_bor, wBo_one, wBo_cons, wPart_nil, wPart_one, wCond_nil, wCond_one, wIt_rng1, wIt_rng2, wIt_seq, onInt_i, onSeq_l, onSeq_t, onTup_t, wSs_nil, wSs_cons, wS_set, wS_setT, wS_par, wS_setI, wS_aug, augEn_val, augEn_own, wS_augI, wS_ex, wS_ret, wS_retN, wS_ifs, wS_fo, wS_brk, wS_pas, ix_t, ix_l, ix_o, sl_t, sl_l, sl_o, o_add, o_sub, o_mul, o_fdiv, o_mod, o_pow, o_addT, o_addDD, o_addDO, o_addOD, o_addOO, neg_i, c_lt, c_le, c_gt, c_ge, c_eqI, c_neI, f_lenT, f_lenL, f_lenO, f_int, f_intB, f_abs, f_max2, f_min2, f_tupT, f_tupL, f_tupO, f_lstT, f_lstL, f_lstO, f_isB, f_isI, f_isS, f_isT, f_sumL, f_sumT, f_maxO, f_minO, f_maxT, f_minT, f_sortO, f_setO, mm_app, mm_rev, mm_pop, si_l, get_0, get_s, resEn_own, resEn_bor, resEn_val, frzEn_own, frzEn_val, retEn_own, retEn_val, objEn_own, objEn_bor, isObEn_own, isObEn_bor, isLsEn_own, isLsEn_bor, putEn_own, putEn_bor, agEn_own, agEn_bor, ag_nil, ag_one, true_and, and_true, vB, List.replicate, List.length_cons, List.length_nil, List.cons_append, List.nil_append, List.set, List.map_cons, List.map_nil, agSlots, putObs, notSlot_val, notSlot_obj, List.all_cons, List.all_nil, Bool.and_self, Bool.and_true, outsFrom, obOf_bor, obOf_own, wipeE, back, isBd, isId, isSd, isTd, noneB, g0, g1, g2, g3, g4, g5, g6, g7, g8, g9, g10, g11, g13, g14, g15, g16, g17, g18, g19, g20, g21, g22, g23]
      refine ⟨b, r, rfl, rfl, ?_⟩
      simp only [bodyCt, wE_v, wE_g, wE_k, wE_op, wE_neg, wE_cmp, wE_isN, wE_ch, wE_nt, wE_bo, wE_ife, wE_tup, wE_lst, wE_dnew, wE_ix, wE_sl, wE_call, wE_bf, wE_mut, wE_comp, onEn_val, onEn_own, onEn_bor, res_val, res_obj, res_slot, frz_val, frz_obj, frz_slot, retR_val, retR_obj, retR_slot, objAt_w, isObj_w, isLst_w, putOb_w, agEn_d, agEn_s, setV_w, setEn_no, setEn_val, setEn_own, isNEn_d, isNEn_o, asB_b, onVal_v, setR_val, setR_obj, setR_slot, setRs_nil, setRs_cons, setVs_nil, setVs_cons, asgT_one, asgT_tup, extS_l, opt_s, wFs_nil, wFs_cons, wOs_nil, wOs_cons, wAs_nil, wAs_cons, wAs_bor, wBo_one, wBo_cons, wPart_nil, wPart_one, wCond_nil, wCond_one, wIt_rng1, wIt_rng2, wIt_seq, onInt_i, onSeq_l, onSeq_t, onTup_t, wSs_nil, wSs_cons, wS_set, wS_setT, wS_par, wS_setI, wS_aug, augEn_val, augEn_own, wS_augI, wS_ex, wS_ret, wS_retN, wS_ifs, wS_fo, wS_brk, wS_pas, ix_t, ix_l, ix_o, sl_t, sl_l, sl_o, o_add, o_sub, o_mul, o_fdiv, o_mod, o_pow, o_addT, o_addDD, o_addDO, o_addOD, o_addOO, neg_i, c_lt, c_le, c_gt, c_ge, c_eqI, c_neI, f_lenT, f_lenL, f_lenO, f_int, f_intB, f_abs, f_max2, f_min2, f_tupT, f_tupL, f_tupO, f_lstT, f_lstL, f_lstO, f_isB, f_isI, f_isS, f_isT, f_sumL, f_sumT, f_maxO, f_minO, f_maxT, f_minT, f_sortO, f_setO, mm_app, mm_rev, mm_pop, si_l, get_0, get_s, resEn_own, resEn_bor, resEn_val, frzEn_own, frzEn_val, retEn_own, retEn_val, objEn_own, objEn_bor, isObEn_own, isObEn_bor, isLsEn_own, isLsEn_bor, putEn_own, putEn_bor, agEn_own, agEn_bor, ag_nil, ag_one, true_and, and_true, vB, List.replicate, List.length_cons, List.length_nil, List.cons_append, List.nil_append, List.set, List.map_cons, List.map_nil, agSlots, putObs, notSlot_val, notSlot_obj, List.all_cons, List.all_nil, Bool.and_self, Bool.and_true, outsFrom, obOf_bor, obOf_own, wipeE, back, isBd, isId, isSd, isTd, noneB, g0, g1, g2, g3, g4, g5, g6, g7, g8, g9, g10, g11, g13, g14, g15, g16, g17, g18, g19, g20, g21, g22, g23]
      by_cases c : w ≤ bearsAt a r + bearsAt b r
      · simp only [c, decide_true, if_true]
        exact h1 _ _ (by simp [c]) rfl
      · simp only [c, decide_false, if_false, Bool.false_eq_true]
        exact h2 _ (by simp [c]) rfl
    · rw [fm_int, List.filterMap_map, show ((a ++ b).filterMap ((fun r => if w ≤ bearsAt a r + bearsAt b r then some r else none) ∘ (·.1))) = twoL a b w from rfl]
      simp only [bodyCt, wE_v, wE_g, wE_k, wE_op, wE_neg, wE_cmp, wE_isN, wE_ch, wE_nt, wE_bo, wE_ife, wE_tup, wE_lst, wE_dnew, wE_ix, wE_sl, wE_call, wE_bf, wE_mut, wE_comp, onEn_val, onEn_own, onEn_bor, res_val, res_obj, res_slot, frz_val, frz_obj, frz_slot, retR_val, retR_obj, retR_slot, objAt_w, isObj_w, isLst_w, putOb_w, agEn_d, agEn_s, setV_w, setEn_no, setEn_val, setEn_own, isNEn_d, isNEn_o, asB_b, onVal_v, setR_val, setR_obj, setR_slot, setRs_nil, setRs_cons, setVs_nil, setVs_cons, asgT_one, asgT_tup, extS_l, opt_s, wFs_nil, wFs_cons, wOs_nil, wOs_cons, wAs_nil, wAs_cons, wAs_bor, wBo_one, wBo_cons, wPart_nil, wPart_one, wCond_nil, wCond_one, wIt_rng1, wIt_rng2, wIt_seq, onInt_i, onSeq_l, onSeq_t, onTup_t, wSs_nil, wSs_cons, wS_set, wS_setT, wS_par, wS_setI, wS_aug, augEn_val, augEn_own, wS_augI, wS_ex, wS_ret, wS_retN, wS_ifs, wS_fo, wS_brk, wS_pas, ix_t, ix_l, ix_o, sl_t, sl_l, sl_o, o_add, o_sub, o_mul, o_fdiv, o_mod, o_pow, o_addT, o_addDD, o_addDO, o_addOD, o_addOO, neg_i, c_lt, c_le, c_gt, c_ge, c_eqI, c_neI, f_lenT, f_lenL, f_lenO, f_int, f_intB, f_abs, f_max2, f_min2, f_tupT, f_tupL, f_tupO, f_lstT, f_lstL, f_lstO, f_isB, f_isI, f_isS, f_isT, f_sumL, f_sumT, f_maxO, f_minO, f_maxT, f_minT, f_sortO, f_setO, mm_app, mm_rev, mm_pop, si_l, get_0, get_s, resEn_own, resEn_bor, resEn_val, frzEn_own, frzEn_val, retEn_own, retEn_val, objEn_own, objEn_bor, isObEn_own, isObEn_bor, isLsEn_own, isLsEn_bor, putEn_own, putEn_bor, agEn_own, agEn_bor, ag_nil, ag_one, true_and, and_true, vB, List.replicate, List.length_cons, List.length_nil, List.cons_append, List.nil_append, List.set, List.map_cons, List.map_nil, agSlots, putObs, notSlot_val, notSlot_obj, List.all_cons, List.all_nil, Bool.and_self, Bool.and_true, outsFrom, obOf_bor, obOf_own, wipeE, back, isBd, isId, isSd, isTd, noneB, g0, g1, g2, g3, g4, g5, g6, g7, g8, g9, g10, g11, g13, g14, g15, g16, g17, g18, g19, g20, g21, g22, g23, List.length_map]
      by_cases c : twoL a b w = []
      · simp [c, eO, maxO] at h ⊢
        exact h
      · simp only [len_pos c, decide_true, if_true]
        rw [maxO_pos c] at h
        exact ⟨c, h⟩
end K60

set_option Elab.async false
set_option linter.all false
set_option maxRecDepth 100000
set_option maxHeartbeats 4000000
namespace K60
open PySem L2 Bo
theorem app_eP (st : List P2) (r b : Int) : st.map eP ++ [.tuple [.int r, .int b]] = (st ++ [(r, b)]).map eP := by simp [eP]
theorem s_steps {es : List En} {K : Rs → List Ob → Prop} (h : ctSteps es K) : bodyCt Γ 6 ir__law_steps es K := by
  obtain ⟨l, m, rfl, ⟨m0, m1⟩, h⟩ := h
  unfold ir__law_steps
  simp only [bodyCt, wE_v, wE_g, wE_k, wE_op, wE_neg, wE_cmp, wE_isN, wE_ch, wE_nt, wE_bo, wE_ife, wE_tup, wE_lst, wE_dnew, wE_ix, wE_sl, wE_call, wE_bf, wE_mut, wE_comp, onEn_val, onEn_own, onEn_bor, res_val, res_obj, res_slot, frz_val, frz_obj, frz_slot, retR_val, retR_obj, retR_slot, objAt_w, isObj_w, isLst_w, putOb_w, agEn_d, agEn_s, setV_w, setEn_no, setEn_val, setEn_own, isNEn_d, isNEn_o, asB_b, onVal_v, setR_val, setR_obj, setR_slot, setRs_nil, setRs_cons, setVs_nil, setVs_cons, asgT_one, asgT_tup, extS_l, opt_s, wFs_nil, wFs_cons, wOs_nil, wOs_cons, wAs_nil, wAs_cons, wAs_bor, wBo_one, wBo_cons, wPart_nil, wPart_one, wCond_nil, wCond_one, wIt_rng1, wIt_rng2, wIt_seq, onInt_i, onSeq_l, onSeq_t, onTup_t, wSs_nil, wSs_cons, wS_set, wS_setT, wS_par, wS_setI, wS_aug, augEn_val, augEn_own, wS_augI, wS_ex, wS_ret, wS_retN, wS_ifs, wS_fo, wS_brk, wS_pas, ix_t, ix_l, ix_o, sl_t, sl_l, sl_o, o_add, o_sub, o_mul, o_fdiv, o_mod, o_pow, o_addT, o_addDD, o_addDO, o_addOD, o_addOO, neg_i, c_lt, c_le, c_gt, c_ge, c_eqI, c_neI, f_lenT, f_lenL, f_lenO, f_int, f_intB, f_abs, f_max2, f_min2, f_tupT, f_tupL, f_tupO, f_lstT, f_lstL, f_lstO, f_isB, f_isI, f_isS, f_isT, f_sumL, f_sumT, f_maxO, f_minO, f_maxT, f_minT, f_sortO, f_setO, mm_app, mm_rev, mm_pop, si_l, get_0, get_s, resEn_own, resEn_bor, resEn_val, frzEn_own, frzEn_val, retEn_own, retEn_val, objEn_own, objEn_bor, isObEn_own, isObEn_bor, isLsEn_own, isLsEn_bor, putEn_own, putEn_bor, agEn_own, agEn_bor, ag_nil, ag_one, true_and, and_true, vB, List.replicate, List.length_cons, List.length_nil, List.cons_append, List.nil_append, List.set, List.map_cons, List.map_nil, agSlots, putObs, notSlot_val, notSlot_obj, List.all_cons, List.all_nil, Bool.and_self, Bool.and_true, outsFrom, obOf_bor, obOf_own, wipeE, back, isBd, isId, isSd, isTd, noneB, g0, g1, g2, g3, g4, g5, g6, g7, g8, g9, g10, g11, g13, g14, g15, g16, g17, g18, g19, g20, g21, g22, g23, intO]
  refine ⟨by decide, l, 4, rfl, by decide, fun r l1 r0 r1 => ⟨rfl, ?_⟩⟩
  simp only [bodyCt, wE_v, wE_g, wE_k, wE_op, wE_neg, wE_cmp, wE_isN, wE_ch, wE_nt, wE_bo, wE_ife, wE_tup, wE_lst, wE_dnew, wE_ix, wE_sl, wE_call, wE_bf, wE_mut, wE_comp, onEn_val, onEn_own, onEn_bor, res_val, res_obj, res_slot, frz_val, frz_obj, frz_slot, retR_val, retR_obj, retR_slot, objAt_w, isObj_w, isLst_w, putOb_w, agEn_d, agEn_s, setV_w, setEn_no, setEn_val, setEn_own, isNEn_d, isNEn_o, asB_b, onVal_v, setR_val, setR_obj, setR_slot, setRs_nil, setRs_cons, setVs_nil, setVs_cons, asgT_one, asgT_tup, extS_l, opt_s, wFs_nil, wFs_cons, wOs_nil, wOs_cons, wAs_nil, wAs_cons, wAs_bor, wBo_one, wBo_cons, wPart_nil, wPart_one, wCond_nil, wCond_one, wIt_rng1, wIt_rng2, wIt_seq, onInt_i, onSeq_l, onSeq_t, onTup_t, wSs_nil, wSs_cons, wS_set, wS_setT, wS_par, wS_setI, wS_aug, augEn_val, augEn_own, wS_augI, wS_ex, wS_ret, wS_retN, wS_ifs, wS_fo, wS_brk, wS_pas, ix_t, ix_l, ix_o, sl_t, sl_l, sl_o, o_add, o_sub, o_mul, o_fdiv, o_mod, o_pow, o_addT, o_addDD, o_addDO, o_addOD, o_addOO, neg_i, c_lt, c_le, c_gt, c_ge, c_eqI, c_neI, f_lenT, f_lenL, f_lenO, f_int, f_intB, f_abs, f_max2, f_min2, f_tupT, f_tupL, f_tupO, f_lstT, f_lstL, f_lstO, f_isB, f_isI, f_isS, f_isT, f_sumL, f_sumT, f_maxO, f_minO, f_maxT, f_minT, f_sortO, f_setO, mm_app, mm_rev, mm_pop, si_l, get_0, get_s, resEn_own, resEn_bor, resEn_val, frzEn_own, frzEn_val, retEn_own, retEn_val, objEn_own, objEn_bor, isObEn_own, isObEn_bor, isLsEn_own, isLsEn_bor, putEn_own, putEn_bor, agEn_own, agEn_bor, ag_nil, ag_one, true_and, and_true, vB, List.replicate, List.length_cons, List.length_nil, List.cons_append, List.nil_append, List.set, List.map_cons, List.map_nil, agSlots, putObs, notSlot_val, notSlot_obj, List.all_cons, List.all_nil, Bool.and_self, Bool.and_true, outsFrom, obOf_bor, obOf_own, wipeE, back, isBd, isId, isSd, isTd, noneB, g0, g1, g2, g3, g4, g5, g6, g7, g8, g9, g10, g11, g13, g14, g15, g16, g17, g18, g19, g20, g21, g22, g23, intO]
  refine ⟨l1, 30, rfl, by decide, fun b l2 b0 b1 => ⟨rfl, ?_⟩⟩
  simp only [bodyCt, wE_v, wE_g, wE_k, wE_op, wE_neg, wE_cmp, wE_isN, wE_ch, wE_nt, wE_bo, wE_ife, wE_tup, wE_lst, wE_dnew, wE_ix, wE_sl, wE_call, wE_bf, wE_mut, wE_comp, onEn_val, onEn_own, onEn_bor, res_val, res_obj, res_slot, frz_val, frz_obj, frz_slot, retR_val, retR_obj, retR_slot, objAt_w, isObj_w, isLst_w, putOb_w, agEn_d, agEn_s, setV_w, setEn_no, setEn_val, setEn_own, isNEn_d, isNEn_o, asB_b, onVal_v, setR_val, setR_obj, setR_slot, setRs_nil, setRs_cons, setVs_nil, setVs_cons, asgT_one, asgT_tup, extS_l, opt_s, wFs_nil, wFs_cons, wOs_nil, wOs_cons, wAs_nil, wAs_cons, wAs_bor, wBo_one, wBo_cons, wPart_nil, wPart_one, wCond_nil, wCond_one, wIt_rng1, wIt_rng2, wIt_seq, onInt_i, onSeq_l, onSeq_t, onTup_t, wSs_nil, wSs_cons, wS_set, wS_setT, wS_par, wS_setI, wS_aug, augEn_val, augEn_own, wS_augI, wS_ex, wS_ret, wS_retN, wS_ifs, wS_fo, wS_brk, wS_pas, ix_t, ix_l, ix_o, sl_t, sl_l, sl_o, o_add, o_sub, o_mul, o_fdiv, o_mod, o_pow, o_addT, o_addDD, o_addDO, o_addOD, o_addOO, neg_i, c_lt, c_le, c_gt, c_ge, c_eqI, c_neI, f_lenT, f_lenL, f_lenO, f_int, f_intB, f_abs, f_max2, f_min2, f_tupT, f_tupL, f_tupO, f_lstT, f_lstL, f_lstO, f_isB, f_isI, f_isS, f_isT, f_sumL, f_sumT, f_maxO, f_minO, f_maxT, f_minT, f_sortO, f_setO, mm_app, mm_rev, mm_pop, si_l, get_0, get_s, resEn_own, resEn_bor, resEn_val, frzEn_own, frzEn_val, retEn_own, retEn_val, objEn_own, objEn_bor, isObEn_own, isObEn_bor, isLsEn_own, isLsEn_bor, putEn_own, putEn_bor, agEn_own, agEn_bor, ag_nil, ag_one, true_and, and_true, vB, List.replicate, List.length_cons, List.length_nil, List.cons_append, List.nil_append, List.set, List.map_cons, List.map_nil, agSlots, putObs, notSlot_val, notSlot_obj, List.all_cons, List.all_nil, Bool.and_self, Bool.and_true, outsFrom, obOf_bor, obOf_own, wipeE, back, isBd, isId, isSd, isTd, noneB, g0, g1, g2, g3, g4, g5, g6, g7, g8, g9, g10, g11, g13, g14, g15, g16, g17, g18, g19, g20, g21, g22, g23, intO]
  refine ⟨l2, m + 1, rfl, by omega, fun n l3 n0 n1 => ⟨rfl, ?_⟩⟩
  simp only [bodyCt, wE_v, wE_g, wE_k, wE_op, wE_neg, wE_cmp, wE_isN, wE_ch, wE_nt, wE_bo, wE_ife, wE_tup, wE_lst, wE_dnew, wE_ix, wE_sl, wE_call, wE_bf, wE_mut, wE_comp, onEn_val, onEn_own, onEn_bor, res_val, res_obj, res_slot, frz_val, frz_obj, frz_slot, retR_val, retR_obj, retR_slot, objAt_w, isObj_w, isLst_w, putOb_w, agEn_d, agEn_s, setV_w, setEn_no, setEn_val, setEn_own, isNEn_d, isNEn_o, asB_b, onVal_v, setR_val, setR_obj, setR_slot, setRs_nil, setRs_cons, setVs_nil, setVs_cons, asgT_one, asgT_tup, extS_l, opt_s, wFs_nil, wFs_cons, wOs_nil, wOs_cons, wAs_nil, wAs_cons, wAs_bor, wBo_one, wBo_cons, wPart_nil, wPart_one, wCond_nil, wCond_one, wIt_rng1, wIt_rng2, wIt_seq, onInt_i, onSeq_l, onSeq_t, onTup_t, wSs_nil, wSs_cons, wS_set, wS_setT, wS_par, wS_setI, wS_aug, augEn_val, augEn_own, wS_augI, wS_ex, wS_ret, wS_retN, wS_ifs, wS_fo, wS_brk, wS_pas, ix_t, ix_l, ix_o, sl_t, sl_l, sl_o, o_add, o_sub, o_mul, o_fdiv, o_mod, o_pow, o_addT, o_addDD, o_addDO, o_addOD, o_addOO, neg_i, c_lt, c_le, c_gt, c_ge, c_eqI, c_neI, f_lenT, f_lenL, f_lenO, f_int, f_intB, f_abs, f_max2, f_min2, f_tupT, f_tupL, f_tupO, f_lstT, f_lstL, f_lstO, f_isB, f_isI, f_isS, f_isT, f_sumL, f_sumT, f_maxO, f_minO, f_maxT, f_minT, f_sortO, f_setO, mm_app, mm_rev, mm_pop, si_l, get_0, get_s, resEn_own, resEn_bor, resEn_val, frzEn_own, frzEn_val, retEn_own, retEn_val, objEn_own, objEn_bor, isObEn_own, isObEn_bor, isLsEn_own, isLsEn_bor, putEn_own, putEn_bor, agEn_own, agEn_bor, ag_nil, ag_one, true_and, and_true, vB, List.replicate, List.length_cons, List.length_nil, List.cons_append, List.nil_append, List.set, List.map_cons, List.map_nil, agSlots, putObs, notSlot_val, notSlot_obj, List.all_cons, List.all_nil, Bool.and_self, Bool.and_true, outsFrom, obOf_bor, obOf_own, wipeE, back, isBd, isId, isSd, isTd, noneB, g0, g1, g2, g3, g4, g5, g6, g7, g8, g9, g10, g11, g13, g14, g15, g16, g17, g18, g19, g20, g21, g22, g23, intO]
  refine ⟨⟨⟨by omega, by omega⟩, by omega⟩, ?_⟩
  refine wFor_map (fun i : Nat => .int (0 + (i : Nat))) (fun as ρ => ∃ l st r b e5, ρ = [.bor (.lst (List.map PyData.int l)), .val (.int m), .own (.lst (List.map eP st)), .val (.int r), .val (.int b), e5] ∧ nb e5 ∧
    st.Pairwise (fun a b => a.1 < b.1) ∧ (∀ p ∈ st, 0 ≤ p.1 ∧ p.1 < r) ∧ st.length + as.length ≤ 7 ∧ 0 ≤ r ∧ r + 5 * as.length ≤ 100 ∧ b ≤ 40 ∧ ∀ p ∈ st, 0 ≤ p.2 ∧ p.2 ≤ 40) ?_ ?_ (List.range (n - 0).toNat) _
    ⟨l3, [], r, 5 + b, .no, rfl, trivial, .nil, (fun p hp => by simp at hp), by rw [List.length_range, List.length_nil]; omega, r0, by rw [List.length_range]; omega, by omega, (fun p hp => by simp at hp)⟩
  · rintro a as ρ k ⟨l, st, r, b, e5, rfl, h5, pw, hm, hl, hr, hb, hb4, hbs⟩ hk
    rw [List.length_cons] at hl hb
    have go : ∀ st' : List P2, st'.Pairwise (fun a b => a.1 < b.1) → (∀ p ∈ st', 0 ≤ p.1 ∧ p.1 < r + 1) → st'.length + as.length ≤ 7 → (∀ p ∈ st', 0 ≤ p.2 ∧ p.2 ≤ 40) →
        wSs Γ (.cons (.par [3, 4] (.cons (.op .add (.op .add (.v 3) (.k (.int 1))) (.call 10 (.bor 0 (.cons (.k (.int 4)) .nil)))) (.cons (.op .sub (.op .sub (.v 4) (.k (.int 1))) (.call 10 (.bor 0 (.cons (.k (.int 8)) .nil)))) .nil))) .nil)
          [.bor (.lst (List.map PyData.int l)), .val (.int m), .own (.lst (List.map eP st')), .val (.int r), .val (.int b), .val (.int (0 + (a : Nat)))] { nx := k, rt := fun r ρ => K r [obOf (ρ.get 0)], bk := fun ρ1 => K (.val (.tuple (st'.map eP))) [] } := fun st' pw' hm' hl' hbs' => by
      simp only [bodyCt, wE_v, wE_g, wE_k, wE_op, wE_neg, wE_cmp, wE_isN, wE_ch, wE_nt, wE_bo, wE_ife, wE_tup, wE_lst, wE_dnew, wE_ix, wE_sl, wE_call, wE_bf, wE_mut, wE_comp, onEn_val, onEn_own, onEn_bor, res_val, res_obj, res_slot, frz_val, frz_obj, frz_slot, retR_val, retR_obj, retR_slot, objAt_w, isObj_w, isLst_w, putOb_w, agEn_d, agEn_s, setV_w, setEn_no, setEn_val, setEn_own, isNEn_d, isNEn_o, asB_b, onVal_v, setR_val, setR_obj, setR_slot, setRs_nil, setRs_cons, setVs_nil, setVs_cons, asgT_one, asgT_tup, extS_l, opt_s, wFs_nil, wFs_cons, wOs_nil, wOs_cons, wAs_nil, wAs_cons, wAs_bor, wBo_one, wBo_cons, wPart_nil, wPart_one, wCond_nil, wCond_one, wIt_rng1, wIt_rng2, wIt_seq, onInt_i, onSeq_l, onSeq_t, onTup_t, wSs_nil, wSs_cons, wS_set, wS_setT, wS_par, wS_setI, wS_aug, augEn_val, augEn_own, wS_augI, wS_ex, wS_ret, wS_retN, wS_ifs, wS_fo, wS_brk, wS_pas, ix_t, ix_l, ix_o, sl_t, sl_l, sl_o, o_add, o_sub, o_mul, o_fdiv, o_mod, o_pow, o_addT, o_addDD, o_addDO, o_addOD, o_addOO, neg_i, c_lt, c_le, c_gt, c_ge, c_eqI, c_neI, f_lenT, f_lenL, f_lenO, f_int, f_intB, f_abs, f_max2, f_min2, f_tupT, f_tupL, f_tupO, f_lstT, f_lstL, f_lstO, f_isB, f_isI, f_isS, f_isT, f_sumL, f_sumT, f_maxO, f_minO, f_maxT, f_minT, f_sortO, f_setO, mm_app, mm_rev, mm_pop, si_l, get_0, get_s, resEn_own, resEn_bor, resEn_val, frzEn_own, frzEn_val, retEn_own, retEn_val, objEn_own, objEn_bor, isObEn_own, isObEn_bor, isLsEn_own, isLsEn_bor, putEn_own, putEn_bor, agEn_own, agEn_bor, ag_nil, ag_one, true_and, and_true, vB, List.replicate, List.length_cons, List.length_nil, List.cons_append, List.nil_append, List.set, List.map_cons, List.map_nil, agSlots, putObs, notSlot_val, notSlot_obj, List.all_cons, List.all_nil, Bool.and_self, Bool.and_true, outsFrom, obOf_bor, obOf_own, wipeE, back, isBd, isId, isSd, isTd, noneB, g0, g1, g2, g3, g4, g5, g6, g7, g8, g9, g10, g11, g13, g14, g15, g16, g17, g18, g19, g20, g21, g22, g23, intO]
      refine ⟨l, 4, rfl, by decide, fun v l' v0 v1 => ⟨rfl, ?_⟩⟩
      simp only [bodyCt, wE_v, wE_g, wE_k, wE_op, wE_neg, wE_cmp, wE_isN, wE_ch, wE_nt, wE_bo, wE_ife, wE_tup, wE_lst, wE_dnew, wE_ix, wE_sl, wE_call, wE_bf, wE_mut, wE_comp, onEn_val, onEn_own, onEn_bor, res_val, res_obj, res_slot, frz_val, frz_obj, frz_slot, retR_val, retR_obj, retR_slot, objAt_w, isObj_w, isLst_w, putOb_w, agEn_d, agEn_s, setV_w, setEn_no, setEn_val, setEn_own, isNEn_d, isNEn_o, asB_b, onVal_v, setR_val, setR_obj, setR_slot, setRs_nil, setRs_cons, setVs_nil, setVs_cons, asgT_one, asgT_tup, extS_l, opt_s, wFs_nil, wFs_cons, wOs_nil, wOs_cons, wAs_nil, wAs_cons, wAs_bor, wBo_one, wBo_cons, wPart_nil, wPart_one, wCond_nil, wCond_one, wIt_rng1, wIt_rng2, wIt_seq, onInt_i, onSeq_l, onSeq_t, onTup_t, wSs_nil, wSs_cons, wS_set, wS_setT, wS_par, wS_setI, wS_aug, augEn_val, augEn_own, wS_augI, wS_ex, wS_ret, wS_retN, wS_ifs, wS_fo, wS_brk, wS_pas, ix_t, ix_l, ix_o, sl_t, sl_l, sl_o, o_add, o_sub, o_mul, o_fdiv, o_mod, o_pow, o_addT, o_addDD, o_addDO, o_addOD, o_addOO, neg_i, c_lt, c_le, c_gt, c_ge, c_eqI, c_neI, f_lenT, f_lenL, f_lenO, f_int, f_intB, f_abs, f_max2, f_min2, f_tupT, f_tupL, f_tupO, f_lstT, f_lstL, f_lstO, f_isB, f_isI, f_isS, f_isT, f_sumL, f_sumT, f_maxO, f_minO, f_maxT, f_minT, f_sortO, f_setO, mm_app, mm_rev, mm_pop, si_l, get_0, get_s, resEn_own, resEn_bor, resEn_val, frzEn_own, frzEn_val, retEn_own, retEn_val, objEn_own, objEn_bor, isObEn_own, isObEn_bor, isLsEn_own, isLsEn_bor, putEn_own, putEn_bor, agEn_own, agEn_bor, ag_nil, ag_one, true_and, and_true, vB, List.replicate, List.length_cons, List.length_nil, List.cons_append, List.nil_append, List.set, List.map_cons, List.map_nil, agSlots, putObs, notSlot_val, notSlot_obj, List.all_cons, List.all_nil, Bool.and_self, Bool.and_true, outsFrom, obOf_bor, obOf_own, wipeE, back, isBd, isId, isSd, isTd, noneB, g0, g1, g2, g3, g4, g5, g6, g7, g8, g9, g10, g11, g13, g14, g15, g16, g17, g18, g19, g20, g21, g22, g23, intO]
      refine ⟨l', 8, rfl, by decide, fun u l'' u0 u1 => ⟨rfl, ?_⟩⟩
      simp only [bodyCt, wE_v, wE_g, wE_k, wE_op, wE_neg, wE_cmp, wE_isN, wE_ch, wE_nt, wE_bo, wE_ife, wE_tup, wE_lst, wE_dnew, wE_ix, wE_sl, wE_call, wE_bf, wE_mut, wE_comp, onEn_val, onEn_own, onEn_bor, res_val, res_obj, res_slot, frz_val, frz_obj, frz_slot, retR_val, retR_obj, retR_slot, objAt_w, isObj_w, isLst_w, putOb_w, agEn_d, agEn_s, setV_w, setEn_no, setEn_val, setEn_own, isNEn_d, isNEn_o, asB_b, onVal_v, setR_val, setR_obj, setR_slot, setRs_nil, setRs_cons, setVs_nil, setVs_cons, asgT_one, asgT_tup, extS_l, opt_s, wFs_nil, wFs_cons, wOs_nil, wOs_cons, wAs_nil, wAs_cons, wAs_bor, wBo_one, wBo_cons, wPart_nil, wPart_one, wCond_nil, wCond_one, wIt_rng1, wIt_rng2, wIt_seq, onInt_i, onSeq_l, onSeq_t, onTup_t, wSs_nil, wSs_cons, wS_set, wS_setT, wS_par, wS_setI, wS_aug, augEn_val, augEn_own, wS_augI, wS_ex, wS_ret, wS_retN, wS_ifs, wS_fo, wS_brk, wS_pas, ix_t, ix_l, ix_o, sl_t, sl_l, sl_o, o_add, o_sub, o_mul, o_fdiv, o_mod, o_pow, o_addT, o_addDD, o_addDO, o_addOD, o_addOO, neg_i, c_lt, c_le, c_gt, c_ge, c_eqI, c_neI, f_lenT, f_lenL, f_lenO, f_int, f_intB, f_abs, f_max2, f_min2, f_tupT, f_tupL, f_tupO, f_lstT, f_lstL, f_lstO, f_isB, f_isI, f_isS, f_isT, f_sumL, f_sumT, f_maxO, f_minO, f_maxT, f_minT, f_sortO, f_setO, mm_app, mm_rev, mm_pop, si_l, get_0, get_s, resEn_own, resEn_bor, resEn_val, frzEn_own, frzEn_val, retEn_own, retEn_val, objEn_own, objEn_bor, isObEn_own, isObEn_bor, isLsEn_own, isLsEn_bor, putEn_own, putEn_bor, agEn_own, agEn_bor, ag_nil, ag_one, true_and, and_true, vB, List.replicate, List.length_cons, List.length_nil, List.cons_append, List.nil_append, List.set, List.map_cons, List.map_nil, agSlots, putObs, notSlot_val, notSlot_obj, List.all_cons, List.all_nil, Bool.and_self, Bool.and_true, outsFrom, obOf_bor, obOf_own, wipeE, back, isBd, isId, isSd, isTd, noneB, g0, g1, g2, g3, g4, g5, g6, g7, g8, g9, g10, g11, g13, g14, g15, g16, g17, g18, g19, g20, g21, g22, g23, intO]
      exact hk _ ⟨_, st', _, _, _, rfl, trivial, pw', fun p hp => ⟨(hm' p hp).1, by have := (hm' p hp).2; omega⟩, hl', by omega, by omega, by omega, hbs'⟩
    have q0 := go st pw (fun p hp => ⟨(hm p hp).1, by have := (hm p hp).2; omega⟩) (by omega) hbs
    have q1 := fun c : 0 ≤ b => go (st ++ [(r, b)]) (by
      refine List.pairwise_append.mpr ⟨pw, by simp, fun x hx y hy => ?_⟩
      rw [List.mem_singleton] at hy
      subst hy
      exact (hm x hx).2) (fun p hp => by
      rcases List.mem_append.mp hp with e | e
      · exact ⟨(hm p e).1, by have := (hm p e).2; omega⟩
      · rw [List.mem_singleton] at e
        subst e
        exact ⟨hr, by show r < r + 1; omega⟩) (by rw [List.length_append, List.length_singleton]; omega) (fun p hp => by
      rcases List.mem_append.mp hp with e | e
      · exact hbs p e
      · rw [List.mem_singleton] at e
        subst e
        exact ⟨c, hb4⟩)
    simp only [bodyCt, wE_v, wE_g, wE_k, wE_op, wE_neg, wE_cmp, wE_isN, wE_ch, wE_nt, wE_bo, wE_ife, wE_tup, wE_lst, wE_dnew, wE_ix, wE_sl, wE_call, wE_bf, wE_mut, wE_comp, onEn_val, onEn_own, onEn_bor, res_val, res_obj, res_slot, frz_val, frz_obj, frz_slot, retR_val, retR_obj, retR_slot, objAt_w, isObj_w, isLst_w, putOb_w, agEn_d, agEn_s, setV_w, setEn_no, setEn_val, setEn_own, isNEn_d, isNEn_o, asB_b, onVal_v, setR_val, setR_obj, setR_slot, setRs_nil, setRs_cons, setVs_nil, setVs_cons, asgT_one, asgT_tup, extS_l, opt_s, wFs_nil, wFs_cons, wOs_nil, wOs_cons, wAs_nil, wAs_cons, wAs_bor, wBo_one, wBo_cons, wPart_nil, wPart_one, wCond_nil, wCond_one, wIt_rng1, wIt_rng2, wIt_seq, onInt_i, onSeq_l, onSeq_t, onTup_t, wSs_nil, wSs_cons, wS_set, wS_setT, wS_par, wS_setI, wS_aug, augEn_val, augEn_own, wS_augI, wS_ex, wS_ret, wS_retN, wS_ifs, wS_fo, wS_brk, wS_pas, ix_t, ix_l, ix_o, sl_t, sl_l, sl_o, o_add, o_sub, o_mul, o_fdiv, o_mod, o_pow, o_addT, o_addDD, o_addDO, o_addOD, o_addOO, neg_i, c_lt, c_le, c_gt, c_ge, c_eqI, c_neI, f_lenT, f_lenL, f_lenO, f_int, f_intB, f_abs, f_max2, f_min2, f_tupT, f_tupL, f_tupO, f_lstT, f_lstL, f_lstO, f_isB, f_isI, f_isS, f_isT, f_sumL, f_sumT, f_maxO, f_minO, f_maxT, f_minT, f_sortO, f_setO, mm_app, mm_rev, mm_pop, si_l, get_0, get_s, resEn_own, resEn_bor, resEn_val, frzEn_own, frzEn_val, retEn_own, retEn_val, objEn_own, objEn_bor, isObEn_own, isObEn_bor, isLsEn_own, isLsEn_bor, putEn_own, putEn_bor, agEn_own, agEn_bor, ag_nil, ag_one, true_and, and_true, vB, List.replicate, List.length_cons, List.length_nil, List.cons_append, List.nil_append, List.set, List.map_cons, List.map_nil, agSlots, putObs, notSlot_val, notSlot_obj, List.all_cons, List.all_nil, Bool.and_self, Bool.and_true, outsFrom, obOf_bor, obOf_own, wipeE, back, isBd, isId, isSd, isTd, noneB, g0, g1, g2, g3, g4, g5, g6, g7, g8, g9, g10, g11, g13, g14, g15, g16, g17, g18, g19, g20, g21, g22, g23, intO] at q0 q1
    simp only [bodyCt, wE_v, wE_g, wE_k, wE_op, wE_neg, wE_cmp, wE_isN, wE_ch, wE_nt, wE_bo, wE_ife, wE_tup, wE_lst, wE_dnew, wE_ix, wE_sl, wE_call, wE_bf, wE_mut, wE_comp, onEn_val, onEn_own, onEn_bor, res_val, res_obj, res_slot, frz_val, frz_obj, frz_slot, retR_val, retR_obj, retR_slot, objAt_w, isObj_w, isLst_w, putOb_w, agEn_d, agEn_s, setV_w, setEn_no, setEn_val, setEn_own, isNEn_d, isNEn_o, asB_b, onVal_v, setR_val, setR_obj, setR_slot, setRs_nil, setRs_cons, setVs_nil, setVs_cons, asgT_one, asgT_tup, extS_l, opt_s, wFs_nil, wFs_cons, wOs_nil, wOs_cons, wAs_nil, wAs_cons, wAs_bor, wBo_one, wBo_cons, wPart_nil, wPart_one, wCond_nil, wCond_one, wIt_rng1, wIt_rng2, wIt_seq, onInt_i, onSeq_l, onSeq_t, onTup_t, wSs_nil, wSs_cons, wS_set, wS_setT, wS_par, wS_setI, wS_aug, augEn_val, augEn_own, wS_augI, wS_ex, wS_ret, wS_retN, wS_ifs, wS_fo, wS_brk, wS_pas, ix_t, ix_l, ix_o, sl_t, sl_l, sl_o, o_add, o_sub, o_mul, o_fdiv, o_mod, o_pow, o_addT, o_addDD, o_addDO, o_addOD, o_addOO, neg_i, c_lt, c_le, c_gt, c_ge, c_eqI, c_neI, f_lenT, f_lenL, f_lenO, f_int, f_intB, f_abs, f_max2, f_min2, f_tupT, f_tupL, f_tupO, f_lstT, f_lstL, f_lstO, f_isB, f_isI, f_isS, f_isT, f_sumL, f_sumT, f_maxO, f_minO, f_maxT, f_minT, f_sortO, f_setO, mm_app, mm_rev, mm_pop, si_l, get_0, get_s, resEn_own, resEn_bor, resEn_val, frzEn_own, frzEn_val, retEn_own, retEn_val, objEn_own, objEn_bor, isObEn_own, isObEn_bor, isLsEn_own, isLsEn_bor, putEn_own, putEn_bor, agEn_own, agEn_bor, ag_nil, ag_one, true_and, and_true, vB, List.replicate, List.length_cons, List.length_nil, List.cons_append, List.nil_append, List.set, List.map_cons, List.map_nil, agSlots, putObs, notSlot_val, notSlot_obj, List.all_cons, List.all_nil, Bool.and_self, Bool.and_true, outsFrom, obOf_bor, obOf_own, wipeE, back, isBd, isId, isSd, isTd, noneB, g0, g1, g2, g3, g4, g5, g6, g7, g8, g9, g10, g11, g13, g14, g15, g16, g17, g18, g19, g20, g21, g22, g23, intO, setEn_nb h5, List.length_map]
    by_cases c : 0 ≤ b
    · simp only [c, decide_true, if_true]
      refine ⟨by decide, by omega, ?_⟩
      rw [app_eP]
      exact q1 c
    · simp only [c, decide_false, Bool.false_eq_true, if_false]
      exact q0
  · rintro ρ ⟨l, st, r, b, e5, rfl, h5, pw, hm, hl, hr, hb, hb4, hbs⟩
    simp only [bodyCt, wE_v, wE_g, wE_k, wE_op, wE_neg, wE_cmp, wE_isN, wE_ch, wE_nt, wE_bo, wE_ife, wE_tup, wE_lst, wE_dnew, wE_ix, wE_sl, wE_call, wE_bf, wE_mut, wE_comp, onEn_val, onEn_own, onEn_bor, res_val, res_obj, res_slot, frz_val, frz_obj, frz_slot, retR_val, retR_obj, retR_slot, objAt_w, isObj_w, isLst_w, putOb_w, agEn_d, agEn_s, setV_w, setEn_no, setEn_val, setEn_own, isNEn_d, isNEn_o, asB_b, onVal_v, setR_val, setR_obj, setR_slot, setRs_nil, setRs_cons, setVs_nil, setVs_cons, asgT_one, asgT_tup, extS_l, opt_s, wFs_nil, wFs_cons, wOs_nil, wOs_cons, wAs_nil, wAs_cons, wAs_bor, wBo_one, wBo_cons, wPart_nil, wPart_one, wCond_nil, wCond_one, wIt_rng1, wIt_rng2, wIt_seq, onInt_i, onSeq_l, onSeq_t, onTup_t, wSs_nil, wSs_cons, wS_set, wS_setT, wS_par, wS_setI, wS_aug, augEn_val, augEn_own, wS_augI, wS_ex, wS_ret, wS_retN, wS_ifs, wS_fo, wS_brk, wS_pas, ix_t, ix_l, ix_o, sl_t, sl_l, sl_o, o_add, o_sub, o_mul, o_fdiv, o_mod, o_pow, o_addT, o_addDD, o_addDO, o_addOD, o_addOO, neg_i, c_lt, c_le, c_gt, c_ge, c_eqI, c_neI, f_lenT, f_lenL, f_lenO, f_int, f_intB, f_abs, f_max2, f_min2, f_tupT, f_tupL, f_tupO, f_lstT, f_lstL, f_lstO, f_isB, f_isI, f_isS, f_isT, f_sumL, f_sumT, f_maxO, f_minO, f_maxT, f_minT, f_sortO, f_setO, mm_app, mm_rev, mm_pop, si_l, get_0, get_s, resEn_own, resEn_bor, resEn_val, frzEn_own, frzEn_val, retEn_own, retEn_val, objEn_own, objEn_bor, isObEn_own, isObEn_bor, isLsEn_own, isLsEn_bor, putEn_own, putEn_bor, agEn_own, agEn_bor, ag_nil, ag_one, true_and, and_true, vB, List.replicate, List.length_cons, List.length_nil, List.cons_append, List.nil_append, List.set, List.map_cons, List.map_nil, agSlots, putObs, notSlot_val, notSlot_obj, List.all_cons, List.all_nil, Bool.and_self, Bool.and_true, outsFrom, obOf_bor, obOf_own, wipeE, back, isBd, isId, isSd, isTd, noneB, g0, g1, g2, g3, g4, g5, g6, g7, g8, g9, g10, g11, g13, g14, g15, g16, g17, g18, g19, g20, g21, g22, g23]
    rw [List.length_nil] at hl hb
    exact h st l ⟨pw, fun p hp => ⟨(hm p hp).1, by have := (hm p hp).2; omega⟩, by omega⟩ hbs
theorem bears_hd (reach : Int) : ∀ st : List P2, atI ((st.filterMap fun p => if reach ≤ p.1 then some p.2 else none).map PyData.int ++ [.int 0]) 0 = some (.int (bearsAt st reach))
  | [] => rfl
  | p :: r => by
    by_cases c : reach ≤ p.1
    · simp only [List.filterMap_cons, c, if_true, bearsAt]
      exact atI_zero
    · simp only [List.filterMap_cons, c, if_false, bearsAt]
      exact bears_hd reach r
theorem s_lbears {es : List En} {K : Rs → List Ob → Prop} (h : ctLBears es K) : bodyCt Γ 3 ir__law_bears es K := by
  obtain ⟨st, reach, rfl, hs, h⟩ := h
  unfold ir__law_bears eS
  simp only [bodyCt, wE_v, wE_g, wE_k, wE_op, wE_neg, wE_cmp, wE_isN, wE_ch, wE_nt, wE_bo, wE_ife, wE_tup, wE_lst, wE_dnew, wE_ix, wE_sl, wE_call, wE_bf, wE_mut, wE_comp, onEn_val, onEn_own, onEn_bor, res_val, res_obj, res_slot, frz_val, frz_obj, frz_slot, retR_val, retR_obj, retR_slot, objAt_w, isObj_w, isLst_w, putOb_w, agEn_d, agEn_s, setV_w, setEn_no, setEn_val, setEn_own, isNEn_d, isNEn_o, asB_b, onVal_v, setR_val, setR_obj, setR_slot, setRs_nil, setRs_cons, setVs_nil, setVs_cons, asgT_one, asgT_tup, extS_l, opt_s, wFs_nil, wFs_cons, wOs_nil, wOs_cons, wAs_nil, wAs_cons, wAs_bor, wBo_one, wBo_cons, wPart_nil, wPart_one, wCond_nil, wCond_one, wIt_rng1, wIt_rng2, wIt_seq, onInt_i, onSeq_l, onSeq_t, onTup_t, wSs_nil, wSs_cons, wS_set, wS_setT, wS_par, wS_setI, wS_aug, augEn_val, augEn_own, wS_augI, wS_ex, wS_ret, wS_retN, wS_ifs, wS_fo, wS_brk, wS_pas, ix_t, ix_l, ix_o, sl_t, sl_l, sl_o, o_add, o_sub, o_mul, o_fdiv, o_mod, o_pow, o_addT, o_addDD, o_addDO, o_addOD, o_addOO, neg_i, c_lt, c_le, c_gt, c_ge, c_eqI, c_neI, f_lenT, f_lenL, f_lenO, f_int, f_intB, f_abs, f_max2, f_min2, f_tupT, f_tupL, f_tupO, f_lstT, f_lstL, f_lstO, f_isB, f_isI, f_isS, f_isT, f_sumL, f_sumT, f_maxO, f_minO, f_maxT, f_minT, f_sortO, f_setO, mm_app, mm_rev, mm_pop, si_l, get_0, get_s, resEn_own, resEn_bor, resEn_val, frzEn_own, frzEn_val, retEn_own, retEn_val, objEn_own, objEn_bor, isObEn_own, isObEn_bor, isLsEn_own, isLsEn_bor, putEn_own, putEn_bor, agEn_own, agEn_bor, ag_nil, ag_one, true_and, and_true, vB, List.replicate, List.length_cons, List.length_nil, List.cons_append, List.nil_append, List.set, List.map_cons, List.map_nil, agSlots, putObs, notSlot_val, notSlot_obj, List.all_cons, List.all_nil, Bool.and_self, Bool.and_true, outsFrom, obOf_bor, obOf_own, wipeE, back, isBd, isId, isSd, isTd, noneB, g0, g1, g2, g3, g4, g5, g6, g7, g8, g9, g10, g11, g13, g14, g15, g16, g17, g18, g19, g20, g21, g22, g23]
  refine ⟨by simp [noObj, Ev.get], ?_⟩
  refine wComp_pure eP (fun p => ((if reach ≤ p.1 then some p.2 else none : Option Int)).map PyData.int) st _ (fun p hp kt kf h1 h2 => ?_) ?_
  · simp only [eP, bodyCt, wE_v, wE_g, wE_k, wE_op, wE_neg, wE_cmp, wE_isN, wE_ch, wE_nt, wE_bo, wE_ife, wE_tup, wE_lst, wE_dnew, wE_ix, wE_sl, wE_call, wE_bf, wE_mut, wE_comp, onEn_val, onEn_own, onEn_bor, res_val, res_obj, res_slot, frz_val, frz_obj, frz_slot, retR_val, retR_obj, retR_slot, objAt_w, isObj_w, isLst_w, putOb_w, agEn_d, agEn_s, setV_w, setEn_no, setEn_val, setEn_own, isNEn_d, isNEn_o, asB_b, onVal_v, setR_val, setR_obj, setR_slot, setRs_nil, setRs_cons, setVs_nil, setVs_cons, asgT_one, asgT_tup, extS_l, opt_s, wFs_nil, wFs_cons, wOs_nil, wOs_cons, wAs_nil, wAs_cons, wAs_bor, wBo_one, wBo_cons, wPart_nil, wPart_one, wCond_nil, wCond_one, wIt_rng1, wIt_rng2, wIt_seq, onInt_i, onSeq_l, onSeq_t, onTup_t, wSs_nil, wSs_cons, wS_set, wS_setT, wS_par, wS_setI, wS_aug, augEn_val, augEn_own, wS_augI, wS_ex, wS_ret, wS_retN, wS_ifs, wS_fo, wS_brk, wS_pas, ix_t, ix_l, ix_o, sl_t, sl_l, sl_o, o_add, o_sub, o_mul, o_fdiv, o_mod, o_pow, o_addT, o_addDD, o_addDO, o_addOD, o_addOO, neg_i, c_lt, c_le, c_gt, c_ge, c_eqI, c_neI, f_lenT, f_lenL, f_lenO, f_int, f_intB, f_abs, f_max2, f_min2, f_tupT, f_tupL, f_tupO, f_lstT, f_lstL, f_lstO, f_isB, f_isI, f_isS, f_isT, f_sumL, f_sumT, f_maxO, f_minO, f_maxT, f_minT, f_sortO, f_setO, mm_app, mm_rev, mm_pop, si_l, get_0, get_s, resEn_own, resEn_bor, resEn_val, frzEn_own, frzEn_val, retEn_own, retEn_val, objEn_own, objEn_bor, isObEn_own, isObEn_bor, isLsEn_own, isLsEn_bor, putEn_own, putEn_bor, agEn_own, agEn_bor, ag_nil, ag_one, true_and, and_true, vB, List.replicate, List.length_cons, List.length_nil, List.cons_append, List.nil_append, List.set, List.map_cons, List.map_nil, agSlots, putObs, notSlot_val, notSlot_obj, List.all_cons, List.all_nil, Bool.and_self, Bool.and_true, outsFrom, obOf_bor, obOf_own, wipeE, back, isBd, isId, isSd, isTd, noneB, g0, g1, g2, g3, g4, g5, g6, g7, g8, g9, g10, g11, g13, g14, g15, g16, g17, g18, g19, g20, g21, g22, g23, at0]
    by_cases c : reach ≤ p.1
    · simp only [c, decide_true, if_true, bodyCt, wE_v, wE_g, wE_k, wE_op, wE_neg, wE_cmp, wE_isN, wE_ch, wE_nt, wE_bo, wE_ife, wE_tup, wE_lst, wE_dnew, wE_ix, wE_sl, wE_call, wE_bf, wE_mut, wE_comp, onEn_val, onEn_own, onEn_bor, res_val, res_obj, res_slot, frz_val, frz_obj, frz_slot, retR_val, retR_obj, retR_slot, objAt_w, isObj_w, isLst_w, putOb_w, agEn_d, agEn_s, setV_w, setEn_no, setEn_val, setEn_own, isNEn_d, isNEn_o, asB_b, onVal_v, setR_val, setR_obj, setR_slot, setRs_nil, setRs_cons, setVs_nil, setVs_cons, asgT_one, asgT_tup, extS_l, opt_s, wFs_nil, wFs_cons, wOs_nil, wOs_cons, wAs_nil, wAs_cons, wAs_bor, wBo_one, wBo_cons, wPart_nil, wPart_one, wCond_nil, wCond_one, wIt_rng1, wIt_rng2, wIt_seq, onInt_i, onSeq_l, onSeq_t, onTup_t, wSs_nil, wSs_cons, wS_set, wS_setT, wS_par, wS_setI, wS_aug, augEn_val, augEn_own, wS_augI, wS_ex, wS_ret, wS_retN, wS_ifs, wS_fo, wS_brk, wS_pas, ix_t, ix_l, ix_o, sl_t, sl_l, sl_o, o_add, o_sub, o_mul, o_fdiv, o_mod, o_pow, o_addT, o_addDD, o_addDO, o_addOD, o_addOO, neg_i, c_lt, c_le, c_gt, c_ge, c_eqI, c_neI, f_lenT, f_lenL, f_lenO, f_int, f_intB, f_abs, f_max2, f_min2, f_tupT, f_tupL, f_tupO, f_lstT, f_lstL, f_lstO, f_isB, f_isI, f_isS, f_isT, f_sumL, f_sumT, f_maxO, f_minO, f_maxT, f_minT, f_sortO, f_setO, mm_app, mm_rev, mm_pop, si_l, get_0, get_s, resEn_own, resEn_bor, resEn_val, frzEn_own, frzEn_val, retEn_own, retEn_val, objEn_own, objEn_bor, isObEn_own, isObEn_bor, isLsEn_own, isLsEn_bor, putEn_own, putEn_bor, agEn_own, agEn_bor, ag_nil, ag_one, true_and, and_true, vB, List.replicate, List.length_cons, List.length_nil, List.cons_append, List.nil_append, List.set, List.map_cons, List.map_nil, agSlots, putObs, notSlot_val, notSlot_obj, List.all_cons, List.all_nil, Bool.and_self, Bool.and_true, outsFrom, obOf_bor, obOf_own, wipeE, back, isBd, isId, isSd, isTd, noneB, at1]
      exact h1 _ _ (by simp [c]) rfl
    · simp only [c, decide_false, if_false, Bool.false_eq_true]
      exact h2 _ (by simp [c]) rfl
  · rw [fm_int]
    simp only [bodyCt, wE_v, wE_g, wE_k, wE_op, wE_neg, wE_cmp, wE_isN, wE_ch, wE_nt, wE_bo, wE_ife, wE_tup, wE_lst, wE_dnew, wE_ix, wE_sl, wE_call, wE_bf, wE_mut, wE_comp, onEn_val, onEn_own, onEn_bor, res_val, res_obj, res_slot, frz_val, frz_obj, frz_slot, retR_val, retR_obj, retR_slot, objAt_w, isObj_w, isLst_w, putOb_w, agEn_d, agEn_s, setV_w, setEn_no, setEn_val, setEn_own, isNEn_d, isNEn_o, asB_b, onVal_v, setR_val, setR_obj, setR_slot, setRs_nil, setRs_cons, setVs_nil, setVs_cons, asgT_one, asgT_tup, extS_l, opt_s, wFs_nil, wFs_cons, wOs_nil, wOs_cons, wAs_nil, wAs_cons, wAs_bor, wBo_one, wBo_cons, wPart_nil, wPart_one, wCond_nil, wCond_one, wIt_rng1, wIt_rng2, wIt_seq, onInt_i, onSeq_l, onSeq_t, onTup_t, wSs_nil, wSs_cons, wS_set, wS_setT, wS_par, wS_setI, wS_aug, augEn_val, augEn_own, wS_augI, wS_ex, wS_ret, wS_retN, wS_ifs, wS_fo, wS_brk, wS_pas, ix_t, ix_l, ix_o, sl_t, sl_l, sl_o, o_add, o_sub, o_mul, o_fdiv, o_mod, o_pow, o_addT, o_addDD, o_addDO, o_addOD, o_addOO, neg_i, c_lt, c_le, c_gt, c_ge, c_eqI, c_neI, f_lenT, f_lenL, f_lenO, f_int, f_intB, f_abs, f_max2, f_min2, f_tupT, f_tupL, f_tupO, f_lstT, f_lstL, f_lstO, f_isB, f_isI, f_isS, f_isT, f_sumL, f_sumT, f_maxO, f_minO, f_maxT, f_minT, f_sortO, f_setO, mm_app, mm_rev, mm_pop, si_l, get_0, get_s, resEn_own, resEn_bor, resEn_val, frzEn_own, frzEn_val, retEn_own, retEn_val, objEn_own, objEn_bor, isObEn_own, isObEn_bor, isLsEn_own, isLsEn_bor, putEn_own, putEn_bor, agEn_own, agEn_bor, ag_nil, ag_one, true_and, and_true, vB, List.replicate, List.length_cons, List.length_nil, List.cons_append, List.nil_append, List.set, List.map_cons, List.map_nil, agSlots, putObs, notSlot_val, notSlot_obj, List.all_cons, List.all_nil, Bool.and_self, Bool.and_true, outsFrom, obOf_bor, obOf_own, wipeE, back, isBd, isId, isSd, isTd, noneB, g0, g1, g2, g3, g4, g5, g6, g7, g8, g9, g10, g11, g13, g14, g15, g16, g17, g18, g19, g20, g21, g22, g23, bears_hd]
    have := List.length_filterMap_le (fun p : P2 => if reach ≤ p.1 then some p.2 else none) st
    have := hs.2.2
    exact ⟨by omega, by rw [List.length_map]; omega, h⟩
theorem atI_last {α : Type} {x : α} {xs : List α} : atI (xs ++ [x]) (-1) = some x := by
  unfold atI ixN
  rw [if_neg (by omega), List.length_append, List.length_singleton, if_pos (by omega)]
  show (xs ++ [x])[((-1 : Int) + ((xs.length + 1 : Nat) : Int)).toNat]? = _
  rw [show ((-1 : Int) + ((xs.length + 1 : Nat) : Int)).toNat = xs.length by omega, List.getElem?_concat_length]
theorem last_max : ∀ {l : List Int}, l.Pairwise (· < ·) → atI (PyData.none :: l.map PyData.int) (-1) = some (eO (maxO l)) := fun {l} h => by
  rcases List.eq_nil_or_concat l with e | ⟨l', x, e⟩
  · subst e; rfl
  · rw [List.concat_eq_append] at e
    subst e
    rw [List.map_append, List.map_singleton, ← List.cons_append, atI_last]
    have c : l' ++ [x] ≠ [] := by simp
    rw [maxO_pos c, ← maxI_eq (m := x) (by simp) fun y hy => ?_]
    · rfl
    · rcases List.mem_append.mp hy with e | e
      · have := (List.pairwise_append.mp h).2.2 y e x (by simp)
        omega
      · rw [List.mem_singleton] at e
        omega
theorem reachL_sorted {st : List P2} (h : Good st) (w : Int) : (reachL st w).Pairwise (· < ·) := by
  unfold reachL
  rw [List.pairwise_filterMap]
  refine h.1.imp fun {a b} hab x hx y hy => ?_
  split at hx
  · split at hy
    · cases hx; cases hy; exact hab
    · cases hy
  · cases hx
theorem s_lreach {es : List En} {K : Rs → List Ob → Prop} (h : ctLReach es K) : bodyCt Γ 3 ir__law_reach es K := by
  obtain ⟨st, w, rfl, hs, h⟩ := h
  unfold ir__law_reach eS
  simp only [bodyCt, wE_v, wE_g, wE_k, wE_op, wE_neg, wE_cmp, wE_isN, wE_ch, wE_nt, wE_bo, wE_ife, wE_tup, wE_lst, wE_dnew, wE_ix, wE_sl, wE_call, wE_bf, wE_mut, wE_comp, onEn_val, onEn_own, onEn_bor, res_val, res_obj, res_slot, frz_val, frz_obj, frz_slot, retR_val, retR_obj, retR_slot, objAt_w, isObj_w, isLst_w, putOb_w, agEn_d, agEn_s, setV_w, setEn_no, setEn_val, setEn_own, isNEn_d, isNEn_o, asB_b, onVal_v, setR_val, setR_obj, setR_slot, setRs_nil, setRs_cons, setVs_nil, setVs_cons, asgT_one, asgT_tup, extS_l, opt_s, wFs_nil, wFs_cons, wOs_nil, wOs_cons, wAs_nil, wAs_cons, wAs_bor, wBo_one, wBo_cons, wPart_nil, wPart_one, wCond_nil, wCond_one, wIt_rng1, wIt_rng2, wIt_seq, onInt_i, onSeq_l, onSeq_t, onTup_t, wSs_nil, wSs_cons, wS_set, wS_setT, wS_par, wS_setI, wS_aug, augEn_val, augEn_own, wS_augI, wS_ex, wS_ret, wS_retN, wS_ifs, wS_fo, wS_brk, wS_pas, ix_t, ix_l, ix_o, sl_t, sl_l, sl_o, o_add, o_sub, o_mul, o_fdiv, o_mod, o_pow, o_addT, o_addDD, o_addDO, o_addOD, o_addOO, neg_i, c_lt, c_le, c_gt, c_ge, c_eqI, c_neI, f_lenT, f_lenL, f_lenO, f_int, f_intB, f_abs, f_max2, f_min2, f_tupT, f_tupL, f_tupO, f_lstT, f_lstL, f_lstO, f_isB, f_isI, f_isS, f_isT, f_sumL, f_sumT, f_maxO, f_minO, f_maxT, f_minT, f_sortO, f_setO, mm_app, mm_rev, mm_pop, si_l, get_0, get_s, resEn_own, resEn_bor, resEn_val, frzEn_own, frzEn_val, retEn_own, retEn_val, objEn_own, objEn_bor, isObEn_own, isObEn_bor, isLsEn_own, isLsEn_bor, putEn_own, putEn_bor, agEn_own, agEn_bor, ag_nil, ag_one, true_and, and_true, vB, List.replicate, List.length_cons, List.length_nil, List.cons_append, List.nil_append, List.set, List.map_cons, List.map_nil, agSlots, putObs, notSlot_val, notSlot_obj, List.all_cons, List.all_nil, Bool.and_self, Bool.and_true, outsFrom, obOf_bor, obOf_own, wipeE, back, isBd, isId, isSd, isTd, noneB, g0, g1, g2, g3, g4, g5, g6, g7, g8, g9, g10, g11, g13, g14, g15, g16, g17, g18, g19, g20, g21, g22, g23]
  refine ⟨by decide, by simp [noObj, Ev.get], ?_⟩
  refine wComp_pure eP (fun p => ((if w ≤ p.2 then some p.1 else none : Option Int)).map PyData.int) st _ (fun p hp kt kf h1 h2 => ?_) ?_
  · simp only [eP, bodyCt, wE_v, wE_g, wE_k, wE_op, wE_neg, wE_cmp, wE_isN, wE_ch, wE_nt, wE_bo, wE_ife, wE_tup, wE_lst, wE_dnew, wE_ix, wE_sl, wE_call, wE_bf, wE_mut, wE_comp, onEn_val, onEn_own, onEn_bor, res_val, res_obj, res_slot, frz_val, frz_obj, frz_slot, retR_val, retR_obj, retR_slot, objAt_w, isObj_w, isLst_w, putOb_w, agEn_d, agEn_s, setV_w, setEn_no, setEn_val, setEn_own, isNEn_d, isNEn_o, asB_b, onVal_v, setR_val, setR_obj, setR_slot, setRs_nil, setRs_cons, setVs_nil, setVs_cons, asgT_one, asgT_tup, extS_l, opt_s, wFs_nil, wFs_cons, wOs_nil, wOs_cons, wAs_nil, wAs_cons, wAs_bor, wBo_one, wBo_cons, wPart_nil, wPart_one, wCond_nil, wCond_one, wIt_rng1, wIt_rng2, wIt_seq, onInt_i, onSeq_l, onSeq_t, onTup_t, wSs_nil, wSs_cons, wS_set, wS_setT, wS_par, wS_setI, wS_aug, augEn_val, augEn_own, wS_augI, wS_ex, wS_ret, wS_retN, wS_ifs, wS_fo, wS_brk, wS_pas, ix_t, ix_l, ix_o, sl_t, sl_l, sl_o, o_add, o_sub, o_mul, o_fdiv, o_mod, o_pow, o_addT, o_addDD, o_addDO, o_addOD, o_addOO, neg_i, c_lt, c_le, c_gt, c_ge, c_eqI, c_neI, f_lenT, f_lenL, f_lenO, f_int, f_intB, f_abs, f_max2, f_min2, f_tupT, f_tupL, f_tupO, f_lstT, f_lstL, f_lstO, f_isB, f_isI, f_isS, f_isT, f_sumL, f_sumT, f_maxO, f_minO, f_maxT, f_minT, f_sortO, f_setO, mm_app, mm_rev, mm_pop, si_l, get_0, get_s, resEn_own, resEn_bor, resEn_val, frzEn_own, frzEn_val, retEn_own, retEn_val, objEn_own, objEn_bor, isObEn_own, isObEn_bor, isLsEn_own, isLsEn_bor, putEn_own, putEn_bor, agEn_own, agEn_bor, ag_nil, ag_one, true_and, and_true, vB, List.replicate, List.length_cons, List.length_nil, List.cons_append, List.nil_append, List.set, List.map_cons, List.map_nil, agSlots, putObs, notSlot_val, notSlot_obj, List.all_cons, List.all_nil, Bool.and_self, Bool.and_true, outsFrom, obOf_bor, obOf_own, wipeE, back, isBd, isId, isSd, isTd, noneB, g0, g1, g2, g3, g4, g5, g6, g7, g8, g9, g10, g11, g13, g14, g15, g16, g17, g18, g19, g20, g21, g22, g23, at1]
    by_cases c : w ≤ p.2
    · simp only [c, decide_true, if_true, bodyCt, wE_v, wE_g, wE_k, wE_op, wE_neg, wE_cmp, wE_isN, wE_ch, wE_nt, wE_bo, wE_ife, wE_tup, wE_lst, wE_dnew, wE_ix, wE_sl, wE_call, wE_bf, wE_mut, wE_comp, onEn_val, onEn_own, onEn_bor, res_val, res_obj, res_slot, frz_val, frz_obj, frz_slot, retR_val, retR_obj, retR_slot, objAt_w, isObj_w, isLst_w, putOb_w, agEn_d, agEn_s, setV_w, setEn_no, setEn_val, setEn_own, isNEn_d, isNEn_o, asB_b, onVal_v, setR_val, setR_obj, setR_slot, setRs_nil, setRs_cons, setVs_nil, setVs_cons, asgT_one, asgT_tup, extS_l, opt_s, wFs_nil, wFs_cons, wOs_nil, wOs_cons, wAs_nil, wAs_cons, wAs_bor, wBo_one, wBo_cons, wPart_nil, wPart_one, wCond_nil, wCond_one, wIt_rng1, wIt_rng2, wIt_seq, onInt_i, onSeq_l, onSeq_t, onTup_t, wSs_nil, wSs_cons, wS_set, wS_setT, wS_par, wS_setI, wS_aug, augEn_val, augEn_own, wS_augI, wS_ex, wS_ret, wS_retN, wS_ifs, wS_fo, wS_brk, wS_pas, ix_t, ix_l, ix_o, sl_t, sl_l, sl_o, o_add, o_sub, o_mul, o_fdiv, o_mod, o_pow, o_addT, o_addDD, o_addDO, o_addOD, o_addOO, neg_i, c_lt, c_le, c_gt, c_ge, c_eqI, c_neI, f_lenT, f_lenL, f_lenO, f_int, f_intB, f_abs, f_max2, f_min2, f_tupT, f_tupL, f_tupO, f_lstT, f_lstL, f_lstO, f_isB, f_isI, f_isS, f_isT, f_sumL, f_sumT, f_maxO, f_minO, f_maxT, f_minT, f_sortO, f_setO, mm_app, mm_rev, mm_pop, si_l, get_0, get_s, resEn_own, resEn_bor, resEn_val, frzEn_own, frzEn_val, retEn_own, retEn_val, objEn_own, objEn_bor, isObEn_own, isObEn_bor, isLsEn_own, isLsEn_bor, putEn_own, putEn_bor, agEn_own, agEn_bor, ag_nil, ag_one, true_and, and_true, vB, List.replicate, List.length_cons, List.length_nil, List.cons_append, List.nil_append, List.set, List.map_cons, List.map_nil, agSlots, putObs, notSlot_val, notSlot_obj, List.all_cons, List.all_nil, Bool.and_self, Bool.and_true, outsFrom, obOf_bor, obOf_own, wipeE, back, isBd, isId, isSd, isTd, noneB, at0]
      exact h1 _ _ (by simp [c]) rfl
    · simp only [c, decide_false, if_false, Bool.false_eq_true]
      exact h2 _ (by simp [c]) rfl
  · rw [fm_int, show (st.filterMap fun p => if w ≤ p.2 then some p.1 else none) = reachL st w from rfl]
    have := List.length_filterMap_le (fun p : P2 => if w ≤ p.2 then some p.1 else none) st
    have l8 := hs.2.2
    have l9 : (reachL st w).length ≤ 8 := by unfold reachL; omega
    simp only [bodyCt, wE_v, wE_g, wE_k, wE_op, wE_neg, wE_cmp, wE_isN, wE_ch, wE_nt, wE_bo, wE_ife, wE_tup, wE_lst, wE_dnew, wE_ix, wE_sl, wE_call, wE_bf, wE_mut, wE_comp, onEn_val, onEn_own, onEn_bor, res_val, res_obj, res_slot, frz_val, frz_obj, frz_slot, retR_val, retR_obj, retR_slot, objAt_w, isObj_w, isLst_w, putOb_w, agEn_d, agEn_s, setV_w, setEn_no, setEn_val, setEn_own, isNEn_d, isNEn_o, asB_b, onVal_v, setR_val, setR_obj, setR_slot, setRs_nil, setRs_cons, setVs_nil, setVs_cons, asgT_one, asgT_tup, extS_l, opt_s, wFs_nil, wFs_cons, wOs_nil, wOs_cons, wAs_nil, wAs_cons, wAs_bor, wBo_one, wBo_cons, wPart_nil, wPart_one, wCond_nil, wCond_one, wIt_rng1, wIt_rng2, wIt_seq, onInt_i, onSeq_l, onSeq_t, onTup_t, wSs_nil, wSs_cons, wS_set, wS_setT, wS_par, wS_setI, wS_aug, augEn_val, augEn_own, wS_augI, wS_ex, wS_ret, wS_retN, wS_ifs, wS_fo, wS_brk, wS_pas, ix_t, ix_l, ix_o, sl_t, sl_l, sl_o, o_add, o_sub, o_mul, o_fdiv, o_mod, o_pow, o_addT, o_addDD, o_addDO, o_addOD, o_addOO, neg_i, c_lt, c_le, c_gt, c_ge, c_eqI, c_neI, f_lenT, f_lenL, f_lenO, f_int, f_intB, f_abs, f_max2, f_min2, f_tupT, f_tupL, f_tupO, f_lstT, f_lstL, f_lstO, f_isB, f_isI, f_isS, f_isT, f_sumL, f_sumT, f_maxO, f_minO, f_maxT, f_minT, f_sortO, f_setO, mm_app, mm_rev, mm_pop, si_l, get_0, get_s, resEn_own, resEn_bor, resEn_val, frzEn_own, frzEn_val, retEn_own, retEn_val, objEn_own, objEn_bor, isObEn_own, isObEn_bor, isLsEn_own, isLsEn_bor, putEn_own, putEn_bor, agEn_own, agEn_bor, ag_nil, ag_one, true_and, and_true, vB, List.replicate, List.length_cons, List.length_nil, List.cons_append, List.nil_append, List.set, List.map_cons, List.map_nil, agSlots, putObs, notSlot_val, notSlot_obj, List.all_cons, List.all_nil, Bool.and_self, Bool.and_true, outsFrom, obOf_bor, obOf_own, wipeE, back, isBd, isId, isSd, isTd, noneB, g0, g1, g2, g3, g4, g5, g6, g7, g8, g9, g10, g11, g13, g14, g15, g16, g17, g18, g19, g20, g21, g22, g23, List.length_map, last_max (reachL_sorted hs w)]
    exact ⟨by omega, h⟩
theorem fm_len2 {α β : Type} (p : α → Bool) (c : α → β) (l : List α) : (l.filterMap fun a => if p a = true then some (c a) else none).length = (l.filter p).length := by
  induction l with
  | nil => rfl
  | cons a l ih => by_cases h : p a = true <;> simp [h, ih]
theorem mem_reachL {st : List P2} {w : Int} {x : P2} (h : x ∈ st) (hw : w ≤ x.2) : x.1 ∈ reachL st w := List.mem_filterMap.mpr ⟨x, h, if_pos hw⟩
/-- some step bears it -/
theorem can_iff {st : List P2} (hs : Good st) (p q : P2) (w : Int) : canLift st p q w = decide (0 < ((st.filter fun x => decide (w ≤ x.2) && decide ((if sq q > sq p then sq q else sq p) ≤ x.1 * x.1)).length : Nat)) := by
  unfold canLift
  generalize (if sq q > sq p then sq q else sq p) = far
  rw [Bool.eq_iff_iff, decide_eq_true_iff, List.length_pos_iff_exists_mem]
  constructor
  · intro h
    split at h
    · cases h
    · rename_i r e
      obtain ⟨x, hx, rfl, hw⟩ := reach_mem e
      exact ⟨x, List.mem_filter.mpr ⟨hx, by rw [decide_eq_true hw]; exact h⟩⟩
  · rintro ⟨x, hx⟩
    obtain ⟨hx, hc⟩ := List.mem_filter.mp hx
    obtain ⟨c1, c2⟩ := Bool.and_eq_true_iff.mp hc
    have c1 := of_decide_eq_true c1
    have c2 := of_decide_eq_true c2
    have m := mem_reachL hx c1
    have ne : reachL st w ≠ [] := fun e => by rw [e] at m; cases m
    have e : reachFor st w = some (maxI (reachL st w)) := maxO_pos ne
    rw [e]
    have le := (maxI_mem ne).2 _ m
    have x0 := (hs.2.1 x hx).1
    exact decide_eq_true (Int.le_trans c2 (Int.mul_le_mul le le x0 (by omega)))
theorem s_lcan {es : List En} {K : Rs → List Ob → Prop} (h : ctCan es K) : bodyCt Γ 8 ir__law_can es K := by
  obtain ⟨st, p, q, w, rfl, ⟨hs, hp, hq⟩, h⟩ := h
  unfold ir__law_can
  rw [show (En.val (eS st)) = .val (.tuple (st.map eP)) from rfl]
  simp only [bodyCt, wE_v, wE_g, wE_k, wE_op, wE_neg, wE_cmp, wE_isN, wE_ch, wE_nt, wE_bo, wE_ife, wE_tup, wE_lst, wE_dnew, wE_ix, wE_sl, wE_call, wE_bf, wE_mut, wE_comp, onEn_val, onEn_own, onEn_bor, res_val, res_obj, res_slot, frz_val, frz_obj, frz_slot, retR_val, retR_obj, retR_slot, objAt_w, isObj_w, isLst_w, putOb_w, agEn_d, agEn_s, setV_w, setEn_no, setEn_val, setEn_own, isNEn_d, isNEn_o, asB_b, onVal_v, setR_val, setR_obj, setR_slot, setRs_nil, setRs_cons, setVs_nil, setVs_cons, asgT_one, asgT_tup, extS_l, opt_s, wFs_nil, wFs_cons, wOs_nil, wOs_cons, wAs_nil, wAs_cons, wAs_bor, wBo_one, wBo_cons, wPart_nil, wPart_one, wCond_nil, wCond_one, wIt_rng1, wIt_rng2, wIt_seq, onInt_i, onSeq_l, onSeq_t, onTup_t, wSs_nil, wSs_cons, wS_set, wS_setT, wS_par, wS_setI, wS_aug, augEn_val, augEn_own, wS_augI, wS_ex, wS_ret, wS_retN, wS_ifs, wS_fo, wS_brk, wS_pas, ix_t, ix_l, ix_o, sl_t, sl_l, sl_o, o_add, o_sub, o_mul, o_fdiv, o_mod, o_pow, o_addT, o_addDD, o_addDO, o_addOD, o_addOO, neg_i, c_lt, c_le, c_gt, c_ge, c_eqI, c_neI, f_lenT, f_lenL, f_lenO, f_int, f_intB, f_abs, f_max2, f_min2, f_tupT, f_tupL, f_tupO, f_lstT, f_lstL, f_lstO, f_isB, f_isI, f_isS, f_isT, f_sumL, f_sumT, f_maxO, f_minO, f_maxT, f_minT, f_sortO, f_setO, mm_app, mm_rev, mm_pop, si_l, get_0, get_s, resEn_own, resEn_bor, resEn_val, frzEn_own, frzEn_val, retEn_own, retEn_val, objEn_own, objEn_bor, isObEn_own, isObEn_bor, isLsEn_own, isLsEn_bor, putEn_own, putEn_bor, agEn_own, agEn_bor, ag_nil, ag_one, true_and, and_true, vB, List.replicate, List.length_cons, List.length_nil, List.cons_append, List.nil_append, List.set, List.map_cons, List.map_nil, agSlots, putObs, notSlot_val, notSlot_obj, List.all_cons, List.all_nil, Bool.and_self, Bool.and_true, outsFrom, obOf_bor, obOf_own, wipeE, back, isBd, isId, isSd, isTd, noneB, g0, g1, g2, g3, g4, g5, g6, g7, g8, g9, g10, g11, g13, g14, g15, g16, g17, g18, g19, g20, g21, g22, g23]
  refine ⟨by decide, by simp [noObj, Ev.get], ?_⟩
  rw [show [eP p, eP q] = [p, q].map eP from rfl]
  refine wComp_pure eP (fun p => some (.int (sq p))) [p, q] _ (fun x hx kt kf h1 h2 => ?_) ?_
  · have hx : SmP x := by
      simp only [List.mem_cons, List.not_mem_nil, or_false] at hx
      rcases hx with e | e <;> rw [e]
      · exact hp
      · exact hq
    simp only [eP, bodyCt, wE_v, wE_g, wE_k, wE_op, wE_neg, wE_cmp, wE_isN, wE_ch, wE_nt, wE_bo, wE_ife, wE_tup, wE_lst, wE_dnew, wE_ix, wE_sl, wE_call, wE_bf, wE_mut, wE_comp, onEn_val, onEn_own, onEn_bor, res_val, res_obj, res_slot, frz_val, frz_obj, frz_slot, retR_val, retR_obj, retR_slot, objAt_w, isObj_w, isLst_w, putOb_w, agEn_d, agEn_s, setV_w, setEn_no, setEn_val, setEn_own, isNEn_d, isNEn_o, asB_b, onVal_v, setR_val, setR_obj, setR_slot, setRs_nil, setRs_cons, setVs_nil, setVs_cons, asgT_one, asgT_tup, extS_l, opt_s, wFs_nil, wFs_cons, wOs_nil, wOs_cons, wAs_nil, wAs_cons, wAs_bor, wBo_one, wBo_cons, wPart_nil, wPart_one, wCond_nil, wCond_one, wIt_rng1, wIt_rng2, wIt_seq, onInt_i, onSeq_l, onSeq_t, onTup_t, wSs_nil, wSs_cons, wS_set, wS_setT, wS_par, wS_setI, wS_aug, augEn_val, augEn_own, wS_augI, wS_ex, wS_ret, wS_retN, wS_ifs, wS_fo, wS_brk, wS_pas, ix_t, ix_l, ix_o, sl_t, sl_l, sl_o, o_add, o_sub, o_mul, o_fdiv, o_mod, o_pow, o_addT, o_addDD, o_addDO, o_addOD, o_addOO, neg_i, c_lt, c_le, c_gt, c_ge, c_eqI, c_neI, f_lenT, f_lenL, f_lenO, f_int, f_intB, f_abs, f_max2, f_min2, f_tupT, f_tupL, f_tupO, f_lstT, f_lstL, f_lstO, f_isB, f_isI, f_isS, f_isT, f_sumL, f_sumT, f_maxO, f_minO, f_maxT, f_minT, f_sortO, f_setO, mm_app, mm_rev, mm_pop, si_l, get_0, get_s, resEn_own, resEn_bor, resEn_val, frzEn_own, frzEn_val, retEn_own, retEn_val, objEn_own, objEn_bor, isObEn_own, isObEn_bor, isLsEn_own, isLsEn_bor, putEn_own, putEn_bor, agEn_own, agEn_bor, ag_nil, ag_one, true_and, and_true, vB, List.replicate, List.length_cons, List.length_nil, List.cons_append, List.nil_append, List.set, List.map_cons, List.map_nil, agSlots, putObs, notSlot_val, notSlot_obj, List.all_cons, List.all_nil, Bool.and_self, Bool.and_true, outsFrom, obOf_bor, obOf_own, wipeE, back, isBd, isId, isSd, isTd, noneB, g0, g1, g2, g3, g4, g5, g6, g7, g8, g9, g10, g11, g13, g14, g15, g16, g17, g18, g19, g20, g21, g22, g23, if_true]
    exact ⟨mulS hx.1, mulS hx.2, h1 _ _ rfl rfl⟩
  · rw [fm_some, show ([p, q].map fun a => PyData.int (sq a)) = [sq p, sq q].map PyData.int from rfl]
    simp only [f_maxO]
    rw [show maxI [sq p, sq q] = if sq q > sq p then sq q else sq p from rfl]
    simp only [bodyCt, wE_v, wE_g, wE_k, wE_op, wE_neg, wE_cmp, wE_isN, wE_ch, wE_nt, wE_bo, wE_ife, wE_tup, wE_lst, wE_dnew, wE_ix, wE_sl, wE_call, wE_bf, wE_mut, wE_comp, onEn_val, onEn_own, onEn_bor, res_val, res_obj, res_slot, frz_val, frz_obj, frz_slot, retR_val, retR_obj, retR_slot, objAt_w, isObj_w, isLst_w, putOb_w, agEn_d, agEn_s, setV_w, setEn_no, setEn_val, setEn_own, isNEn_d, isNEn_o, asB_b, onVal_v, setR_val, setR_obj, setR_slot, setRs_nil, setRs_cons, setVs_nil, setVs_cons, asgT_one, asgT_tup, extS_l, opt_s, wFs_nil, wFs_cons, wOs_nil, wOs_cons, wAs_nil, wAs_cons, wAs_bor, wBo_one, wBo_cons, wPart_nil, wPart_one, wCond_nil, wCond_one, wIt_rng1, wIt_rng2, wIt_seq, onInt_i, onSeq_l, onSeq_t, onTup_t, wSs_nil, wSs_cons, wS_set, wS_setT, wS_par, wS_setI, wS_aug, augEn_val, augEn_own, wS_augI, wS_ex, wS_ret, wS_retN, wS_ifs, wS_fo, wS_brk, wS_pas, ix_t, ix_l, ix_o, sl_t, sl_l, sl_o, o_add, o_sub, o_mul, o_fdiv, o_mod, o_pow, o_addT, o_addDD, o_addDO, o_addOD, o_addOO, neg_i, c_lt, c_le, c_gt, c_ge, c_eqI, c_neI, f_lenT, f_lenL, f_lenO, f_int, f_intB, f_abs, f_max2, f_min2, f_tupT, f_tupL, f_tupO, f_lstT, f_lstL, f_lstO, f_isB, f_isI, f_isS, f_isT, f_sumL, f_sumT, f_maxO, f_minO, f_maxT, f_minT, f_sortO, f_setO, mm_app, mm_rev, mm_pop, si_l, get_0, get_s, resEn_own, resEn_bor, resEn_val, frzEn_own, frzEn_val, retEn_own, retEn_val, objEn_own, objEn_bor, isObEn_own, isObEn_bor, isLsEn_own, isLsEn_bor, putEn_own, putEn_bor, agEn_own, agEn_bor, ag_nil, ag_one, true_and, and_true, vB, List.replicate, List.length_cons, List.length_nil, List.cons_append, List.nil_append, List.set, List.map_cons, List.map_nil, agSlots, putObs, notSlot_val, notSlot_obj, List.all_cons, List.all_nil, Bool.and_self, Bool.and_true, outsFrom, obOf_bor, obOf_own, wipeE, back, isBd, isId, isSd, isTd, noneB, g0, g1, g2, g3, g4, g5, g6, g7, g8, g9, g10, g11, g13, g14, g15, g16, g17, g18, g19, g20, g21, g22, g23]
    refine ⟨by simp, by simp [noObj, Ev.get], ?_⟩
    refine wComp_pure eP (fun x => if (decide (w ≤ x.2) && decide ((if sq q > sq p then sq q else sq p) ≤ x.1 * x.1)) = true then some (eP x) else none) st _ (fun x hx kt kf h1 h2 => ?_) ?_
    · have hb := hs.2.1 x hx
      rw [show eP x = .tuple [.int x.1, .int x.2] from rfl] at h1 ⊢
      simp only [bodyCt, wE_v, wE_g, wE_k, wE_op, wE_neg, wE_cmp, wE_isN, wE_ch, wE_nt, wE_bo, wE_ife, wE_tup, wE_lst, wE_dnew, wE_ix, wE_sl, wE_call, wE_bf, wE_mut, wE_comp, onEn_val, onEn_own, onEn_bor, res_val, res_obj, res_slot, frz_val, frz_obj, frz_slot, retR_val, retR_obj, retR_slot, objAt_w, isObj_w, isLst_w, putOb_w, agEn_d, agEn_s, setV_w, setEn_no, setEn_val, setEn_own, isNEn_d, isNEn_o, asB_b, onVal_v, setR_val, setR_obj, setR_slot, setRs_nil, setRs_cons, setVs_nil, setVs_cons, asgT_one, asgT_tup, extS_l, opt_s, wFs_nil, wFs_cons, wOs_nil, wOs_cons, wAs_nil, wAs_cons, wAs_bor, wBo_one, wBo_cons, wPart_nil, wPart_one, wCond_nil, wCond_one, wIt_rng1, wIt_rng2, wIt_seq, onInt_i, onSeq_l, onSeq_t, onTup_t, wSs_nil, wSs_cons, wS_set, wS_setT, wS_par, wS_setI, wS_aug, augEn_val, augEn_own, wS_augI, wS_ex, wS_ret, wS_retN, wS_ifs, wS_fo, wS_brk, wS_pas, ix_t, ix_l, ix_o, sl_t, sl_l, sl_o, o_add, o_sub, o_mul, o_fdiv, o_mod, o_pow, o_addT, o_addDD, o_addDO, o_addOD, o_addOO, neg_i, c_lt, c_le, c_gt, c_ge, c_eqI, c_neI, f_lenT, f_lenL, f_lenO, f_int, f_intB, f_abs, f_max2, f_min2, f_tupT, f_tupL, f_tupO, f_lstT, f_lstL, f_lstO, f_isB, f_isI, f_isS, f_isT, f_sumL, f_sumT, f_maxO, f_minO, f_maxT, f_minT, f_sortO, f_setO, mm_app, mm_rev, mm_pop, si_l, get_0, get_s, resEn_own, resEn_bor, resEn_val, frzEn_own, frzEn_val, retEn_own, retEn_val, objEn_own, objEn_bor, isObEn_own, isObEn_bor, isLsEn_own, isLsEn_bor, putEn_own, putEn_bor, agEn_own, agEn_bor, ag_nil, ag_one, true_and, and_true, vB, List.replicate, List.length_cons, List.length_nil, List.cons_append, List.nil_append, List.set, List.map_cons, List.map_nil, agSlots, putObs, notSlot_val, notSlot_obj, List.all_cons, List.all_nil, Bool.and_self, Bool.and_true, outsFrom, obOf_bor, obOf_own, wipeE, back, isBd, isId, isSd, isTd, noneB, g0, g1, g2, g3, g4, g5, g6, g7, g8, g9, g10, g11, g13, g14, g15, g16, g17, g18, g19, g20, g21, g22, g23, at0, at1]
      by_cases c : w ≤ x.2
      · simp only [c, decide_true, if_true, bodyCt, wE_v, wE_g, wE_k, wE_op, wE_neg, wE_cmp, wE_isN, wE_ch, wE_nt, wE_bo, wE_ife, wE_tup, wE_lst, wE_dnew, wE_ix, wE_sl, wE_call, wE_bf, wE_mut, wE_comp, onEn_val, onEn_own, onEn_bor, res_val, res_obj, res_slot, frz_val, frz_obj, frz_slot, retR_val, retR_obj, retR_slot, objAt_w, isObj_w, isLst_w, putOb_w, agEn_d, agEn_s, setV_w, setEn_no, setEn_val, setEn_own, isNEn_d, isNEn_o, asB_b, onVal_v, setR_val, setR_obj, setR_slot, setRs_nil, setRs_cons, setVs_nil, setVs_cons, asgT_one, asgT_tup, extS_l, opt_s, wFs_nil, wFs_cons, wOs_nil, wOs_cons, wAs_nil, wAs_cons, wAs_bor, wBo_one, wBo_cons, wPart_nil, wPart_one, wCond_nil, wCond_one, wIt_rng1, wIt_rng2, wIt_seq, onInt_i, onSeq_l, onSeq_t, onTup_t, wSs_nil, wSs_cons, wS_set, wS_setT, wS_par, wS_setI, wS_aug, augEn_val, augEn_own, wS_augI, wS_ex, wS_ret, wS_retN, wS_ifs, wS_fo, wS_brk, wS_pas, ix_t, ix_l, ix_o, sl_t, sl_l, sl_o, o_add, o_sub, o_mul, o_fdiv, o_mod, o_pow, o_addT, o_addDD, o_addDO, o_addOD, o_addOO, neg_i, c_lt, c_le, c_gt, c_ge, c_eqI, c_neI, f_lenT, f_lenL, f_lenO, f_int, f_intB, f_abs, f_max2, f_min2, f_tupT, f_tupL, f_tupO, f_lstT, f_lstL, f_lstO, f_isB, f_isI, f_isS, f_isT, f_sumL, f_sumT, f_maxO, f_minO, f_maxT, f_minT, f_sortO, f_setO, mm_app, mm_rev, mm_pop, si_l, get_0, get_s, resEn_own, resEn_bor, resEn_val, frzEn_own, frzEn_val, retEn_own, retEn_val, objEn_own, objEn_bor, isObEn_own, isObEn_bor, isLsEn_own, isLsEn_bor, putEn_own, putEn_bor, agEn_own, agEn_bor, ag_nil, ag_one, true_and, and_true, vB, List.replicate, List.length_cons, List.length_nil, List.cons_append, List.nil_append, List.set, List.map_cons, List.map_nil, agSlots, putObs, notSlot_val, notSlot_obj, List.all_cons, List.all_nil, Bool.and_self, Bool.and_true, outsFrom, obOf_bor, obOf_own, wipeE, back, isBd, isId, isSd, isTd, noneB, at0, Bool.true_and] at h1 h2 ⊢
        refine ⟨mul_small (by omega) (by omega), ?_⟩
        by_cases d : (if sq q > sq p then sq q else sq p) ≤ x.1 * x.1
        · simp only [d, decide_true, if_true] at h1 ⊢
          exact h1 _ _ rfl rfl
        · simp only [d, decide_false, Bool.false_eq_true, if_false] at h2 ⊢
          exact h2 _ trivial rfl
      · simp only [c, decide_false, Bool.false_eq_true, if_false, Bool.false_and] at h2 ⊢
        exact h2 _ trivial rfl
    · rw [can_iff hs] at h
      simp only [bodyCt, wE_v, wE_g, wE_k, wE_op, wE_neg, wE_cmp, wE_isN, wE_ch, wE_nt, wE_bo, wE_ife, wE_tup, wE_lst, wE_dnew, wE_ix, wE_sl, wE_call, wE_bf, wE_mut, wE_comp, onEn_val, onEn_own, onEn_bor, res_val, res_obj, res_slot, frz_val, frz_obj, frz_slot, retR_val, retR_obj, retR_slot, objAt_w, isObj_w, isLst_w, putOb_w, agEn_d, agEn_s, setV_w, setEn_no, setEn_val, setEn_own, isNEn_d, isNEn_o, asB_b, onVal_v, setR_val, setR_obj, setR_slot, setRs_nil, setRs_cons, setVs_nil, setVs_cons, asgT_one, asgT_tup, extS_l, opt_s, wFs_nil, wFs_cons, wOs_nil, wOs_cons, wAs_nil, wAs_cons, wAs_bor, wBo_one, wBo_cons, wPart_nil, wPart_one, wCond_nil, wCond_one, wIt_rng1, wIt_rng2, wIt_seq, onInt_i, onSeq_l, onSeq_t, onTup_t, wSs_nil, wSs_cons, wS_set, wS_setT, wS_par, wS_setI, wS_aug, augEn_val, augEn_own, wS_augI, wS_ex, wS_ret, wS_retN, wS_ifs, wS_fo, wS_brk, wS_pas, ix_t, ix_l, ix_o, sl_t, sl_l, sl_o, o_add, o_sub, o_mul, o_fdiv, o_mod, o_pow, o_addT, o_addDD, o_addDO, o_addOD, o_addOO, neg_i, c_lt, c_le, c_gt, c_ge, c_eqI, c_neI, f_lenT, f_lenL, f_lenO, f_int, f_intB, f_abs, f_max2, f_min2, f_tupT, f_tupL, f_tupO, f_lstT, f_lstL, f_lstO, f_isB, f_isI, f_isS, f_isT, f_sumL, f_sumT, f_maxO, f_minO, f_maxT, f_minT, f_sortO, f_setO, mm_app, mm_rev, mm_pop, si_l, get_0, get_s, resEn_own, resEn_bor, resEn_val, frzEn_own, frzEn_val, retEn_own, retEn_val, objEn_own, objEn_bor, isObEn_own, isObEn_bor, isLsEn_own, isLsEn_bor, putEn_own, putEn_bor, agEn_own, agEn_bor, ag_nil, ag_one, true_and, and_true, vB, List.replicate, List.length_cons, List.length_nil, List.cons_append, List.nil_append, List.set, List.map_cons, List.map_nil, agSlots, putObs, notSlot_val, notSlot_obj, List.all_cons, List.all_nil, Bool.and_self, Bool.and_true, outsFrom, obOf_bor, obOf_own, wipeE, back, isBd, isId, isSd, isTd, noneB, g0, g1, g2, g3, g4, g5, g6, g7, g8, g9, g10, g11, g13, g14, g15, g16, g17, g18, g19, g20, g21, g22, g23, fm_len2]
      have e : ∀ n : Nat, decide ((0 : Int) < (n : Nat)) = decide (0 < n) := fun n => decide_eq_decide.mpr (by omega)
      rw [e]
      exact h

/-! ### the law's tests -/
theorem shp_int' (n : Nat) (i : Int) : shp (n + 1) (.int i) := trivial
theorem shp_eO (n : Nat) (o : Option Int) : shp (n + 1) (eO o) := by cases o <;> trivial
theorem shp_eP (n : Nat) (p : P2) : shp (n + 2) (eP p) := ⟨by simp, fun x hx => by
  simp only [List.mem_cons, List.not_mem_nil, or_false] at hx
  rcases hx with e | e <;> rw [e] <;> trivial⟩
theorem at_eP {ps : List P2} {v : Int} (v0 : 0 ≤ v) (v1 : v < ps.length) : ∃ p ∈ ps, atI (ps.map eP) v = some (eP p) := by
  have hv : v.toNat < ps.length := by omega
  refine ⟨ps[v.toNat], List.getElem_mem hv, ?_⟩
  rw [atI_nn v0 (by rw [List.length_map]; exact v1), List.getElem?_map, List.getElem?_eq_getElem hv]; rfl
theorem s_told {es : List En} {K : Rs → List Ob → Prop} (h : ctTold es K) : bodyCt Γ 9 ir__law_is_told es K := by
  obtain ⟨l, st, w, rfl, hs, h⟩ := h
  unfold ir__law_is_told
  rw [show (En.val (eS st)) = .val (.tuple (st.map eP)) from rfl]
  simp only [bodyCt, wE_v, wE_g, wE_k, wE_op, wE_neg, wE_cmp, wE_isN, wE_ch, wE_nt, wE_bo, wE_ife, wE_tup, wE_lst, wE_dnew, wE_ix, wE_sl, wE_call, wE_bf, wE_mut, wE_comp, onEn_val, onEn_own, onEn_bor, res_val, res_obj, res_slot, frz_val, frz_obj, frz_slot, retR_val, retR_obj, retR_slot, objAt_w, isObj_w, isLst_w, putOb_w, agEn_d, agEn_s, setV_w, setEn_no, setEn_val, setEn_own, isNEn_d, isNEn_o, asB_b, onVal_v, setR_val, setR_obj, setR_slot, setRs_nil, setRs_cons, setVs_nil, setVs_cons, asgT_one, asgT_tup, extS_l, opt_s, wFs_nil, wFs_cons, wOs_nil, wOs_cons, wAs_nil, wAs_cons, wAs_bor, wBo_one, wBo_cons, wPart_nil, wPart_one, wCond_nil, wCond_one, wIt_rng1, wIt_rng2, wIt_seq, onInt_i, onSeq_l, onSeq_t, onTup_t, wSs_nil, wSs_cons, wS_set, wS_setT, wS_par, wS_setI, wS_aug, augEn_val, augEn_own, wS_augI, wS_ex, wS_ret, wS_retN, wS_ifs, wS_fo, wS_brk, wS_pas, ix_t, ix_l, ix_o, sl_t, sl_l, sl_o, o_add, o_sub, o_mul, o_fdiv, o_mod, o_pow, o_addT, o_addDD, o_addDO, o_addOD, o_addOO, neg_i, c_lt, c_le, c_gt, c_ge, c_eqI, c_neI, f_lenT, f_lenL, f_lenO, f_int, f_intB, f_abs, f_max2, f_min2, f_tupT, f_tupL, f_tupO, f_lstT, f_lstL, f_lstO, f_isB, f_isI, f_isS, f_isT, f_sumL, f_sumT, f_maxO, f_minO, f_maxT, f_minT, f_sortO, f_setO, mm_app, mm_rev, mm_pop, si_l, get_0, get_s, resEn_own, resEn_bor, resEn_val, frzEn_own, frzEn_val, retEn_own, retEn_val, objEn_own, objEn_bor, isObEn_own, isObEn_bor, isLsEn_own, isLsEn_bor, putEn_own, putEn_bor, agEn_own, agEn_bor, ag_nil, ag_one, true_and, and_true, vB, List.replicate, List.length_cons, List.length_nil, List.cons_append, List.nil_append, List.set, List.map_cons, List.map_nil, agSlots, putObs, notSlot_val, notSlot_obj, List.all_cons, List.all_nil, Bool.and_self, Bool.and_true, outsFrom, obOf_bor, obOf_own, wipeE, back, isBd, isId, isSd, isTd, noneB, g0, g1, g2, g3, g4, g5, g6, g7, g8, g9, g10, g11, g13, g14, g15, g16, g17, g18, g19, g20, g21, g22, g23, intO]
  refine ⟨⟨⟨by decide, by decide⟩, by decide⟩, ?_⟩
  refine wFor_map (fun i : Nat => .int (0 + (i : Nat))) (fun as ρ => ∃ e3, ρ = [.bor (.lst (List.map PyData.int l)), .val (.tuple (st.map eP)), .val (.int w), e3, .no, .no, .no, .no, .no] ∧ nb e3) ?_ ?_ (List.range 30) _ ⟨.no, rfl, trivial⟩
  · rintro a as ρ k ⟨e3, rfl, h3⟩ hk
    simp only [bodyCt, wE_v, wE_g, wE_k, wE_op, wE_neg, wE_cmp, wE_isN, wE_ch, wE_nt, wE_bo, wE_ife, wE_tup, wE_lst, wE_dnew, wE_ix, wE_sl, wE_call, wE_bf, wE_mut, wE_comp, onEn_val, onEn_own, onEn_bor, res_val, res_obj, res_slot, frz_val, frz_obj, frz_slot, retR_val, retR_obj, retR_slot, objAt_w, isObj_w, isLst_w, putOb_w, agEn_d, agEn_s, setV_w, setEn_no, setEn_val, setEn_own, isNEn_d, isNEn_o, asB_b, onVal_v, setR_val, setR_obj, setR_slot, setRs_nil, setRs_cons, setVs_nil, setVs_cons, asgT_one, asgT_tup, extS_l, opt_s, wFs_nil, wFs_cons, wOs_nil, wOs_cons, wAs_nil, wAs_cons, wAs_bor, wBo_one, wBo_cons, wPart_nil, wPart_one, wCond_nil, wCond_one, wIt_rng1, wIt_rng2, wIt_seq, onInt_i, onSeq_l, onSeq_t, onTup_t, wSs_nil, wSs_cons, wS_set, wS_setT, wS_par, wS_setI, wS_aug, augEn_val, augEn_own, wS_augI, wS_ex, wS_ret, wS_retN, wS_ifs, wS_fo, wS_brk, wS_pas, ix_t, ix_l, ix_o, sl_t, sl_l, sl_o, o_add, o_sub, o_mul, o_fdiv, o_mod, o_pow, o_addT, o_addDD, o_addDO, o_addOD, o_addOO, neg_i, c_lt, c_le, c_gt, c_ge, c_eqI, c_neI, f_lenT, f_lenL, f_lenO, f_int, f_intB, f_abs, f_max2, f_min2, f_tupT, f_tupL, f_tupO, f_lstT, f_lstL, f_lstO, f_isB, f_isI, f_isS, f_isT, f_sumL, f_sumT, f_maxO, f_minO, f_maxT, f_minT, f_sortO, f_setO, mm_app, mm_rev, mm_pop, si_l, get_0, get_s, resEn_own, resEn_bor, resEn_val, frzEn_own, frzEn_val, retEn_own, retEn_val, objEn_own, objEn_bor, isObEn_own, isObEn_bor, isLsEn_own, isLsEn_bor, putEn_own, putEn_bor, agEn_own, agEn_bor, ag_nil, ag_one, true_and, and_true, vB, List.replicate, List.length_cons, List.length_nil, List.cons_append, List.nil_append, List.set, List.map_cons, List.map_nil, agSlots, putObs, notSlot_val, notSlot_obj, List.all_cons, List.all_nil, Bool.and_self, Bool.and_true, outsFrom, obOf_bor, obOf_own, wipeE, back, isBd, isId, isSd, isTd, noneB, g0, g1, g2, g3, g4, g5, g6, g7, g8, g9, g10, g11, g13, g14, g15, g16, g17, g18, g19, g20, g21, g22, g23, setEn_nb h3]
    refine ⟨st, _, rfl, rfl, ?_⟩
    simp only [bodyCt, wE_v, wE_g, wE_k, wE_op, wE_neg, wE_cmp, wE_isN, wE_ch, wE_nt, wE_bo, wE_ife, wE_tup, wE_lst, wE_dnew, wE_ix, wE_sl, wE_call, wE_bf, wE_mut, wE_comp, onEn_val, onEn_own, onEn_bor, res_val, res_obj, res_slot, frz_val, frz_obj, frz_slot, retR_val, retR_obj, retR_slot, objAt_w, isObj_w, isLst_w, putOb_w, agEn_d, agEn_s, setV_w, setEn_no, setEn_val, setEn_own, isNEn_d, isNEn_o, asB_b, onVal_v, setR_val, setR_obj, setR_slot, setRs_nil, setRs_cons, setVs_nil, setVs_cons, asgT_one, asgT_tup, extS_l, opt_s, wFs_nil, wFs_cons, wOs_nil, wOs_cons, wAs_nil, wAs_cons, wAs_bor, wBo_one, wBo_cons, wPart_nil, wPart_one, wCond_nil, wCond_one, wIt_rng1, wIt_rng2, wIt_seq, onInt_i, onSeq_l, onSeq_t, onTup_t, wSs_nil, wSs_cons, wS_set, wS_setT, wS_par, wS_setI, wS_aug, augEn_val, augEn_own, wS_augI, wS_ex, wS_ret, wS_retN, wS_ifs, wS_fo, wS_brk, wS_pas, ix_t, ix_l, ix_o, sl_t, sl_l, sl_o, o_add, o_sub, o_mul, o_fdiv, o_mod, o_pow, o_addT, o_addDD, o_addDO, o_addOD, o_addOO, neg_i, c_lt, c_le, c_gt, c_ge, c_eqI, c_neI, f_lenT, f_lenL, f_lenO, f_int, f_intB, f_abs, f_max2, f_min2, f_tupT, f_tupL, f_tupO, f_lstT, f_lstL, f_lstO, f_isB, f_isI, f_isS, f_isT, f_sumL, f_sumT, f_maxO, f_minO, f_maxT, f_minT, f_sortO, f_setO, mm_app, mm_rev, mm_pop, si_l, get_0, get_s, resEn_own, resEn_bor, resEn_val, frzEn_own, frzEn_val, retEn_own, retEn_val, objEn_own, objEn_bor, isObEn_own, isObEn_bor, isLsEn_own, isLsEn_bor, putEn_own, putEn_bor, agEn_own, agEn_bor, ag_nil, ag_one, true_and, and_true, vB, List.replicate, List.length_cons, List.length_nil, List.cons_append, List.nil_append, List.set, List.map_cons, List.map_nil, agSlots, putObs, notSlot_val, notSlot_obj, List.all_cons, List.all_nil, Bool.and_self, Bool.and_true, outsFrom, obOf_bor, obOf_own, wipeE, back, isBd, isId, isSd, isTd, noneB, g0, g1, g2, g3, g4, g5, g6, g7, g8, g9, g10, g11, g13, g14, g15, g16, g17, g18, g19, g20, g21, g22, g23]
    refine ⟨st, _, rfl, hs, rfl, ?_⟩
    simp only [bodyCt, wE_v, wE_g, wE_k, wE_op, wE_neg, wE_cmp, wE_isN, wE_ch, wE_nt, wE_bo, wE_ife, wE_tup, wE_lst, wE_dnew, wE_ix, wE_sl, wE_call, wE_bf, wE_mut, wE_comp, onEn_val, onEn_own, onEn_bor, res_val, res_obj, res_slot, frz_val, frz_obj, frz_slot, retR_val, retR_obj, retR_slot, objAt_w, isObj_w, isLst_w, putOb_w, agEn_d, agEn_s, setV_w, setEn_no, setEn_val, setEn_own, isNEn_d, isNEn_o, asB_b, onVal_v, setR_val, setR_obj, setR_slot, setRs_nil, setRs_cons, setVs_nil, setVs_cons, asgT_one, asgT_tup, extS_l, opt_s, wFs_nil, wFs_cons, wOs_nil, wOs_cons, wAs_nil, wAs_cons, wAs_bor, wBo_one, wBo_cons, wPart_nil, wPart_one, wCond_nil, wCond_one, wIt_rng1, wIt_rng2, wIt_seq, onInt_i, onSeq_l, onSeq_t, onTup_t, wSs_nil, wSs_cons, wS_set, wS_setT, wS_par, wS_setI, wS_aug, augEn_val, augEn_own, wS_augI, wS_ex, wS_ret, wS_retN, wS_ifs, wS_fo, wS_brk, wS_pas, ix_t, ix_l, ix_o, sl_t, sl_l, sl_o, o_add, o_sub, o_mul, o_fdiv, o_mod, o_pow, o_addT, o_addDD, o_addDO, o_addOD, o_addOO, neg_i, c_lt, c_le, c_gt, c_ge, c_eqI, c_neI, f_lenT, f_lenL, f_lenO, f_int, f_intB, f_abs, f_max2, f_min2, f_tupT, f_tupL, f_tupO, f_lstT, f_lstL, f_lstO, f_isB, f_isI, f_isS, f_isT, f_sumL, f_sumT, f_maxO, f_minO, f_maxT, f_minT, f_sortO, f_setO, mm_app, mm_rev, mm_pop, si_l, get_0, get_s, resEn_own, resEn_bor, resEn_val, frzEn_own, frzEn_val, retEn_own, retEn_val, objEn_own, objEn_bor, isObEn_own, isObEn_bor, isLsEn_own, isLsEn_bor, putEn_own, putEn_bor, agEn_own, agEn_bor, ag_nil, ag_one, true_and, and_true, vB, List.replicate, List.length_cons, List.length_nil, List.cons_append, List.nil_append, List.set, List.map_cons, List.map_nil, agSlots, putObs, notSlot_val, notSlot_obj, List.all_cons, List.all_nil, Bool.and_self, Bool.and_true, outsFrom, obOf_bor, obOf_own, wipeE, back, isBd, isId, isSd, isTd, noneB, g0, g1, g2, g3, g4, g5, g6, g7, g8, g9, g10, g11, g13, g14, g15, g16, g17, g18, g19, g20, g21, g22, g23]
    refine ⟨_, rfl, shp_int' _ _, rfl, ?_⟩
    simp only [bodyCt, wE_v, wE_g, wE_k, wE_op, wE_neg, wE_cmp, wE_isN, wE_ch, wE_nt, wE_bo, wE_ife, wE_tup, wE_lst, wE_dnew, wE_ix, wE_sl, wE_call, wE_bf, wE_mut, wE_comp, onEn_val, onEn_own, onEn_bor, res_val, res_obj, res_slot, frz_val, frz_obj, frz_slot, retR_val, retR_obj, retR_slot, objAt_w, isObj_w, isLst_w, putOb_w, agEn_d, agEn_s, setV_w, setEn_no, setEn_val, setEn_own, isNEn_d, isNEn_o, asB_b, onVal_v, setR_val, setR_obj, setR_slot, setRs_nil, setRs_cons, setVs_nil, setVs_cons, asgT_one, asgT_tup, extS_l, opt_s, wFs_nil, wFs_cons, wOs_nil, wOs_cons, wAs_nil, wAs_cons, wAs_bor, wBo_one, wBo_cons, wPart_nil, wPart_one, wCond_nil, wCond_one, wIt_rng1, wIt_rng2, wIt_seq, onInt_i, onSeq_l, onSeq_t, onTup_t, wSs_nil, wSs_cons, wS_set, wS_setT, wS_par, wS_setI, wS_aug, augEn_val, augEn_own, wS_augI, wS_ex, wS_ret, wS_retN, wS_ifs, wS_fo, wS_brk, wS_pas, ix_t, ix_l, ix_o, sl_t, sl_l, sl_o, o_add, o_sub, o_mul, o_fdiv, o_mod, o_pow, o_addT, o_addDD, o_addDO, o_addOD, o_addOO, neg_i, c_lt, c_le, c_gt, c_ge, c_eqI, c_neI, f_lenT, f_lenL, f_lenO, f_int, f_intB, f_abs, f_max2, f_min2, f_tupT, f_tupL, f_tupO, f_lstT, f_lstL, f_lstO, f_isB, f_isI, f_isS, f_isT, f_sumL, f_sumT, f_maxO, f_minO, f_maxT, f_minT, f_sortO, f_setO, mm_app, mm_rev, mm_pop, si_l, get_0, get_s, resEn_own, resEn_bor, resEn_val, frzEn_own, frzEn_val, retEn_own, retEn_val, objEn_own, objEn_bor, isObEn_own, isObEn_bor, isLsEn_own, isLsEn_bor, putEn_own, putEn_bor, agEn_own, agEn_bor, ag_nil, ag_one, true_and, and_true, vB, List.replicate, List.length_cons, List.length_nil, List.cons_append, List.nil_append, List.set, List.map_cons, List.map_nil, agSlots, putObs, notSlot_val, notSlot_obj, List.all_cons, List.all_nil, Bool.and_self, Bool.and_true, outsFrom, obOf_bor, obOf_own, wipeE, back, isBd, isId, isSd, isTd, noneB, g0, g1, g2, g3, g4, g5, g6, g7, g8, g9, g10, g11, g13, g14, g15, g16, g17, g18, g19, g20, g21, g22, g23, Bool.not_true, Bool.false_eq_true, if_false]
    exact hk _ ⟨_, rfl, trivial⟩
  · rintro ρ ⟨e3, rfl, h3⟩
    simp only [bodyCt, wE_v, wE_g, wE_k, wE_op, wE_neg, wE_cmp, wE_isN, wE_ch, wE_nt, wE_bo, wE_ife, wE_tup, wE_lst, wE_dnew, wE_ix, wE_sl, wE_call, wE_bf, wE_mut, wE_comp, onEn_val, onEn_own, onEn_bor, res_val, res_obj, res_slot, frz_val, frz_obj, frz_slot, retR_val, retR_obj, retR_slot, objAt_w, isObj_w, isLst_w, putOb_w, agEn_d, agEn_s, setV_w, setEn_no, setEn_val, setEn_own, isNEn_d, isNEn_o, asB_b, onVal_v, setR_val, setR_obj, setR_slot, setRs_nil, setRs_cons, setVs_nil, setVs_cons, asgT_one, asgT_tup, extS_l, opt_s, wFs_nil, wFs_cons, wOs_nil, wOs_cons, wAs_nil, wAs_cons, wAs_bor, wBo_one, wBo_cons, wPart_nil, wPart_one, wCond_nil, wCond_one, wIt_rng1, wIt_rng2, wIt_seq, onInt_i, onSeq_l, onSeq_t, onTup_t, wSs_nil, wSs_cons, wS_set, wS_setT, wS_par, wS_setI, wS_aug, augEn_val, augEn_own, wS_augI, wS_ex, wS_ret, wS_retN, wS_ifs, wS_fo, wS_brk, wS_pas, ix_t, ix_l, ix_o, sl_t, sl_l, sl_o, o_add, o_sub, o_mul, o_fdiv, o_mod, o_pow, o_addT, o_addDD, o_addDO, o_addOD, o_addOO, neg_i, c_lt, c_le, c_gt, c_ge, c_eqI, c_neI, f_lenT, f_lenL, f_lenO, f_int, f_intB, f_abs, f_max2, f_min2, f_tupT, f_tupL, f_tupO, f_lstT, f_lstL, f_lstO, f_isB, f_isI, f_isS, f_isT, f_sumL, f_sumT, f_maxO, f_minO, f_maxT, f_minT, f_sortO, f_setO, mm_app, mm_rev, mm_pop, si_l, get_0, get_s, resEn_own, resEn_bor, resEn_val, frzEn_own, frzEn_val, retEn_own, retEn_val, objEn_own, objEn_bor, isObEn_own, isObEn_bor, isLsEn_own, isLsEn_bor, putEn_own, putEn_bor, agEn_own, agEn_bor, ag_nil, ag_one, true_and, and_true, vB, List.replicate, List.length_cons, List.length_nil, List.cons_append, List.nil_append, List.set, List.map_cons, List.map_nil, agSlots, putObs, notSlot_val, notSlot_obj, List.all_cons, List.all_nil, Bool.and_self, Bool.and_true, outsFrom, obOf_bor, obOf_own, wipeE, back, isBd, isId, isSd, isTd, noneB, g0, g1, g2, g3, g4, g5, g6, g7, g8, g9, g10, g11, g13, g14, g15, g16, g17, g18, g19, g20, g21, g22, g23]
    have l8 := hs.2.2
    refine ⟨by decide, by simp [noObj, Ev.get], ?_⟩
    refine wComp_pure eP (fun x => some (.int x.2)) st _ (fun x hx kt kf h1 h2 => ?_) ?_
    · simp only [eP, bodyCt, wE_v, wE_g, wE_k, wE_op, wE_neg, wE_cmp, wE_isN, wE_ch, wE_nt, wE_bo, wE_ife, wE_tup, wE_lst, wE_dnew, wE_ix, wE_sl, wE_call, wE_bf, wE_mut, wE_comp, onEn_val, onEn_own, onEn_bor, res_val, res_obj, res_slot, frz_val, frz_obj, frz_slot, retR_val, retR_obj, retR_slot, objAt_w, isObj_w, isLst_w, putOb_w, agEn_d, agEn_s, setV_w, setEn_no, setEn_val, setEn_own, isNEn_d, isNEn_o, asB_b, onVal_v, setR_val, setR_obj, setR_slot, setRs_nil, setRs_cons, setVs_nil, setVs_cons, asgT_one, asgT_tup, extS_l, opt_s, wFs_nil, wFs_cons, wOs_nil, wOs_cons, wAs_nil, wAs_cons, wAs_bor, wBo_one, wBo_cons, wPart_nil, wPart_one, wCond_nil, wCond_one, wIt_rng1, wIt_rng2, wIt_seq, onInt_i, onSeq_l, onSeq_t, onTup_t, wSs_nil, wSs_cons, wS_set, wS_setT, wS_par, wS_setI, wS_aug, augEn_val, augEn_own, wS_augI, wS_ex, wS_ret, wS_retN, wS_ifs, wS_fo, wS_brk, wS_pas, ix_t, ix_l, ix_o, sl_t, sl_l, sl_o, o_add, o_sub, o_mul, o_fdiv, o_mod, o_pow, o_addT, o_addDD, o_addDO, o_addOD, o_addOO, neg_i, c_lt, c_le, c_gt, c_ge, c_eqI, c_neI, f_lenT, f_lenL, f_lenO, f_int, f_intB, f_abs, f_max2, f_min2, f_tupT, f_tupL, f_tupO, f_lstT, f_lstL, f_lstO, f_isB, f_isI, f_isS, f_isT, f_sumL, f_sumT, f_maxO, f_minO, f_maxT, f_minT, f_sortO, f_setO, mm_app, mm_rev, mm_pop, si_l, get_0, get_s, resEn_own, resEn_bor, resEn_val, frzEn_own, frzEn_val, retEn_own, retEn_val, objEn_own, objEn_bor, isObEn_own, isObEn_bor, isLsEn_own, isLsEn_bor, putEn_own, putEn_bor, agEn_own, agEn_bor, ag_nil, ag_one, true_and, and_true, vB, List.replicate, List.length_cons, List.length_nil, List.cons_append, List.nil_append, List.set, List.map_cons, List.map_nil, agSlots, putObs, notSlot_val, notSlot_obj, List.all_cons, List.all_nil, Bool.and_self, Bool.and_true, outsFrom, obOf_bor, obOf_own, wipeE, back, isBd, isId, isSd, isTd, noneB, g0, g1, g2, g3, g4, g5, g6, g7, g8, g9, g10, g11, g13, g14, g15, g16, g17, g18, g19, g20, g21, g22, g23, at1, if_true]
      exact h1 _ _ rfl rfl
    · rw [fm_some, show (st.map fun x => PyData.int x.2) = (st.map (·.2)).map PyData.int by rw [List.map_map]; rfl]
      simp only [bodyCt, wE_v, wE_g, wE_k, wE_op, wE_neg, wE_cmp, wE_isN, wE_ch, wE_nt, wE_bo, wE_ife, wE_tup, wE_lst, wE_dnew, wE_ix, wE_sl, wE_call, wE_bf, wE_mut, wE_comp, onEn_val, onEn_own, onEn_bor, res_val, res_obj, res_slot, frz_val, frz_obj, frz_slot, retR_val, retR_obj, retR_slot, objAt_w, isObj_w, isLst_w, putOb_w, agEn_d, agEn_s, setV_w, setEn_no, setEn_val, setEn_own, isNEn_d, isNEn_o, asB_b, onVal_v, setR_val, setR_obj, setR_slot, setRs_nil, setRs_cons, setVs_nil, setVs_cons, asgT_one, asgT_tup, extS_l, opt_s, wFs_nil, wFs_cons, wOs_nil, wOs_cons, wAs_nil, wAs_cons, wAs_bor, wBo_one, wBo_cons, wPart_nil, wPart_one, wCond_nil, wCond_one, wIt_rng1, wIt_rng2, wIt_seq, onInt_i, onSeq_l, onSeq_t, onTup_t, wSs_nil, wSs_cons, wS_set, wS_setT, wS_par, wS_setI, wS_aug, augEn_val, augEn_own, wS_augI, wS_ex, wS_ret, wS_retN, wS_ifs, wS_fo, wS_brk, wS_pas, ix_t, ix_l, ix_o, sl_t, sl_l, sl_o, o_add, o_sub, o_mul, o_fdiv, o_mod, o_pow, o_addT, o_addDD, o_addDO, o_addOD, o_addOO, neg_i, c_lt, c_le, c_gt, c_ge, c_eqI, c_neI, f_lenT, f_lenL, f_lenO, f_int, f_intB, f_abs, f_max2, f_min2, f_tupT, f_tupL, f_tupO, f_lstT, f_lstL, f_lstO, f_isB, f_isI, f_isS, f_isT, f_sumL, f_sumT, f_maxO, f_minO, f_maxT, f_minT, f_sortO, f_setO, mm_app, mm_rev, mm_pop, si_l, get_0, get_s, resEn_own, resEn_bor, resEn_val, frzEn_own, frzEn_val, retEn_own, retEn_val, objEn_own, objEn_bor, isObEn_own, isObEn_bor, isLsEn_own, isLsEn_bor, putEn_own, putEn_bor, agEn_own, agEn_bor, ag_nil, ag_one, true_and, and_true, vB, List.replicate, List.length_cons, List.length_nil, List.cons_append, List.nil_append, List.set, List.map_cons, List.map_nil, agSlots, putObs, notSlot_val, notSlot_obj, List.all_cons, List.all_nil, Bool.and_self, Bool.and_true, outsFrom, obOf_bor, obOf_own, wipeE, back, isBd, isId, isSd, isTd, noneB, g0, g1, g2, g3, g4, g5, g6, g7, g8, g9, g10, g11, g13, g14, g15, g16, g17, g18, g19, g20, g21, g22, g23, List.length_map]
      refine ⟨by omega, by simp [noObj, Ev.get], ?_⟩
      refine wComp_pure eP (fun x => some (.int (x.2 + 1))) st _ (fun x hx kt kf h1 h2 => ?_) ?_
      · simp only [eP, bodyCt, wE_v, wE_g, wE_k, wE_op, wE_neg, wE_cmp, wE_isN, wE_ch, wE_nt, wE_bo, wE_ife, wE_tup, wE_lst, wE_dnew, wE_ix, wE_sl, wE_call, wE_bf, wE_mut, wE_comp, onEn_val, onEn_own, onEn_bor, res_val, res_obj, res_slot, frz_val, frz_obj, frz_slot, retR_val, retR_obj, retR_slot, objAt_w, isObj_w, isLst_w, putOb_w, agEn_d, agEn_s, setV_w, setEn_no, setEn_val, setEn_own, isNEn_d, isNEn_o, asB_b, onVal_v, setR_val, setR_obj, setR_slot, setRs_nil, setRs_cons, setVs_nil, setVs_cons, asgT_one, asgT_tup, extS_l, opt_s, wFs_nil, wFs_cons, wOs_nil, wOs_cons, wAs_nil, wAs_cons, wAs_bor, wBo_one, wBo_cons, wPart_nil, wPart_one, wCond_nil, wCond_one, wIt_rng1, wIt_rng2, wIt_seq, onInt_i, onSeq_l, onSeq_t, onTup_t, wSs_nil, wSs_cons, wS_set, wS_setT, wS_par, wS_setI, wS_aug, augEn_val, augEn_own, wS_augI, wS_ex, wS_ret, wS_retN, wS_ifs, wS_fo, wS_brk, wS_pas, ix_t, ix_l, ix_o, sl_t, sl_l, sl_o, o_add, o_sub, o_mul, o_fdiv, o_mod, o_pow, o_addT, o_addDD, o_addDO, o_addOD, o_addOO, neg_i, c_lt, c_le, c_gt, c_ge, c_eqI, c_neI, f_lenT, f_lenL, f_lenO, f_int, f_intB, f_abs, f_max2, f_min2, f_tupT, f_tupL, f_tupO, f_lstT, f_lstL, f_lstO, f_isB, f_isI, f_isS, f_isT, f_sumL, f_sumT, f_maxO, f_minO, f_maxT, f_minT, f_sortO, f_setO, mm_app, mm_rev, mm_pop, si_l, get_0, get_s, resEn_own, resEn_bor, resEn_val, frzEn_own, frzEn_val, retEn_own, retEn_val, objEn_own, objEn_bor, isObEn_own, isObEn_bor, isLsEn_own, isLsEn_bor, putEn_own, putEn_bor, agEn_own, agEn_bor, ag_nil, ag_one, true_and, and_true, vB, List.replicate, List.length_cons, List.length_nil, List.cons_append, List.nil_append, List.set, List.map_cons, List.map_nil, agSlots, putObs, notSlot_val, notSlot_obj, List.all_cons, List.all_nil, Bool.and_self, Bool.and_true, outsFrom, obOf_bor, obOf_own, wipeE, back, isBd, isId, isSd, isTd, noneB, g0, g1, g2, g3, g4, g5, g6, g7, g8, g9, g10, g11, g13, g14, g15, g16, g17, g18, g19, g20, g21, g22, g23, at1, if_true]
        exact h1 _ _ rfl rfl
      · rw [fm_some, show (st.map fun x => PyData.int (x.2 + 1)) = (st.map (·.2 + 1)).map PyData.int by rw [List.map_map]; rfl]
        simp only [bodyCt, wE_v, wE_g, wE_k, wE_op, wE_neg, wE_cmp, wE_isN, wE_ch, wE_nt, wE_bo, wE_ife, wE_tup, wE_lst, wE_dnew, wE_ix, wE_sl, wE_call, wE_bf, wE_mut, wE_comp, onEn_val, onEn_own, onEn_bor, res_val, res_obj, res_slot, frz_val, frz_obj, frz_slot, retR_val, retR_obj, retR_slot, objAt_w, isObj_w, isLst_w, putOb_w, agEn_d, agEn_s, setV_w, setEn_no, setEn_val, setEn_own, isNEn_d, isNEn_o, asB_b, onVal_v, setR_val, setR_obj, setR_slot, setRs_nil, setRs_cons, setVs_nil, setVs_cons, asgT_one, asgT_tup, extS_l, opt_s, wFs_nil, wFs_cons, wOs_nil, wOs_cons, wAs_nil, wAs_cons, wAs_bor, wBo_one, wBo_cons, wPart_nil, wPart_one, wCond_nil, wCond_one, wIt_rng1, wIt_rng2, wIt_seq, onInt_i, onSeq_l, onSeq_t, onTup_t, wSs_nil, wSs_cons, wS_set, wS_setT, wS_par, wS_setI, wS_aug, augEn_val, augEn_own, wS_augI, wS_ex, wS_ret, wS_retN, wS_ifs, wS_fo, wS_brk, wS_pas, ix_t, ix_l, ix_o, sl_t, sl_l, sl_o, o_add, o_sub, o_mul, o_fdiv, o_mod, o_pow, o_addT, o_addDD, o_addDO, o_addOD, o_addOO, neg_i, c_lt, c_le, c_gt, c_ge, c_eqI, c_neI, f_lenT, f_lenL, f_lenO, f_int, f_intB, f_abs, f_max2, f_min2, f_tupT, f_tupL, f_tupO, f_lstT, f_lstL, f_lstO, f_isB, f_isI, f_isS, f_isT, f_sumL, f_sumT, f_maxO, f_minO, f_maxT, f_minT, f_sortO, f_setO, mm_app, mm_rev, mm_pop, si_l, get_0, get_s, resEn_own, resEn_bor, resEn_val, frzEn_own, frzEn_val, retEn_own, retEn_val, objEn_own, objEn_bor, isObEn_own, isObEn_bor, isLsEn_own, isLsEn_bor, putEn_own, putEn_bor, agEn_own, agEn_bor, ag_nil, ag_one, true_and, and_true, vB, List.replicate, List.length_cons, List.length_nil, List.cons_append, List.nil_append, List.set, List.map_cons, List.map_nil, agSlots, putObs, notSlot_val, notSlot_obj, List.all_cons, List.all_nil, Bool.and_self, Bool.and_true, outsFrom, obOf_bor, obOf_own, wipeE, back, isBd, isId, isSd, isTd, noneB, g0, g1, g2, g3, g4, g5, g6, g7, g8, g9, g10, g11, g13, g14, g15, g16, g17, g18, g19, g20, g21, g22, g23, List.length_map, List.length_append]
        refine ⟨by omega, ?_⟩
        rw [← List.map_append, show (PyData.int w :: PyData.int 0 :: List.map PyData.int (st.map (·.2) ++ st.map (·.2 + 1))) = (w :: 0 :: (st.map (·.2) ++ st.map (·.2 + 1))).map PyData.int from rfl]
        refine wFor_map PyData.int (fun as ρ => ∃ l e3 e4 e6 e7 e8, ρ = [.bor (.lst (List.map PyData.int l)), .val (.tuple (st.map eP)), .val (.int w), e3, e4, .no, e6, e7, e8] ∧ nb e3 ∧ nb e4 ∧ nb e6 ∧ nb e7 ∧ nb e8) ?_ ?_ _ _ ⟨l, e3, .no, .no, .no, .no, rfl, h3, trivial, trivial, trivial, trivial⟩
        · rintro own as ρ k ⟨l, e3, e4, e6, e7, e8, rfl, h3, h4, h6, h7, h8⟩ hk
          simp only [bodyCt, wE_v, wE_g, wE_k, wE_op, wE_neg, wE_cmp, wE_isN, wE_ch, wE_nt, wE_bo, wE_ife, wE_tup, wE_lst, wE_dnew, wE_ix, wE_sl, wE_call, wE_bf, wE_mut, wE_comp, onEn_val, onEn_own, onEn_bor, res_val, res_obj, res_slot, frz_val, frz_obj, frz_slot, retR_val, retR_obj, retR_slot, objAt_w, isObj_w, isLst_w, putOb_w, agEn_d, agEn_s, setV_w, setEn_no, setEn_val, setEn_own, isNEn_d, isNEn_o, asB_b, onVal_v, setR_val, setR_obj, setR_slot, setRs_nil, setRs_cons, setVs_nil, setVs_cons, asgT_one, asgT_tup, extS_l, opt_s, wFs_nil, wFs_cons, wOs_nil, wOs_cons, wAs_nil, wAs_cons, wAs_bor, wBo_one, wBo_cons, wPart_nil, wPart_one, wCond_nil, wCond_one, wIt_rng1, wIt_rng2, wIt_seq, onInt_i, onSeq_l, onSeq_t, onTup_t, wSs_nil, wSs_cons, wS_set, wS_setT, wS_par, wS_setI, wS_aug, augEn_val, augEn_own, wS_augI, wS_ex, wS_ret, wS_retN, wS_ifs, wS_fo, wS_brk, wS_pas, ix_t, ix_l, ix_o, sl_t, sl_l, sl_o, o_add, o_sub, o_mul, o_fdiv, o_mod, o_pow, o_addT, o_addDD, o_addDO, o_addOD, o_addOO, neg_i, c_lt, c_le, c_gt, c_ge, c_eqI, c_neI, f_lenT, f_lenL, f_lenO, f_int, f_intB, f_abs, f_max2, f_min2, f_tupT, f_tupL, f_tupO, f_lstT, f_lstL, f_lstO, f_isB, f_isI, f_isS, f_isT, f_sumL, f_sumT, f_maxO, f_minO, f_maxT, f_minT, f_sortO, f_setO, mm_app, mm_rev, mm_pop, si_l, get_0, get_s, resEn_own, resEn_bor, resEn_val, frzEn_own, frzEn_val, retEn_own, retEn_val, objEn_own, objEn_bor, isObEn_own, isObEn_bor, isLsEn_own, isLsEn_bor, putEn_own, putEn_bor, agEn_own, agEn_bor, ag_nil, ag_one, true_and, and_true, vB, List.replicate, List.length_cons, List.length_nil, List.cons_append, List.nil_append, List.set, List.map_cons, List.map_nil, agSlots, putObs, notSlot_val, notSlot_obj, List.all_cons, List.all_nil, Bool.and_self, Bool.and_true, outsFrom, obOf_bor, obOf_own, wipeE, back, isBd, isId, isSd, isTd, noneB, g0, g1, g2, g3, g4, g5, g6, g7, g8, g9, g10, g11, g13, g14, g15, g16, g17, g18, g19, g20, g21, g22, g23, setEn_nb h3, setEn_nb h4]
          refine ⟨st, own, rfl, hs, rfl, ?_⟩
          simp only [bodyCt, wE_v, wE_g, wE_k, wE_op, wE_neg, wE_cmp, wE_isN, wE_ch, wE_nt, wE_bo, wE_ife, wE_tup, wE_lst, wE_dnew, wE_ix, wE_sl, wE_call, wE_bf, wE_mut, wE_comp, onEn_val, onEn_own, onEn_bor, res_val, res_obj, res_slot, frz_val, frz_obj, frz_slot, retR_val, retR_obj, retR_slot, objAt_w, isObj_w, isLst_w, putOb_w, agEn_d, agEn_s, setV_w, setEn_no, setEn_val, setEn_own, isNEn_d, isNEn_o, asB_b, onVal_v, setR_val, setR_obj, setR_slot, setRs_nil, setRs_cons, setVs_nil, setVs_cons, asgT_one, asgT_tup, extS_l, opt_s, wFs_nil, wFs_cons, wOs_nil, wOs_cons, wAs_nil, wAs_cons, wAs_bor, wBo_one, wBo_cons, wPart_nil, wPart_one, wCond_nil, wCond_one, wIt_rng1, wIt_rng2, wIt_seq, onInt_i, onSeq_l, onSeq_t, onTup_t, wSs_nil, wSs_cons, wS_set, wS_setT, wS_par, wS_setI, wS_aug, augEn_val, augEn_own, wS_augI, wS_ex, wS_ret, wS_retN, wS_ifs, wS_fo, wS_brk, wS_pas, ix_t, ix_l, ix_o, sl_t, sl_l, sl_o, o_add, o_sub, o_mul, o_fdiv, o_mod, o_pow, o_addT, o_addDD, o_addDO, o_addOD, o_addOO, neg_i, c_lt, c_le, c_gt, c_ge, c_eqI, c_neI, f_lenT, f_lenL, f_lenO, f_int, f_intB, f_abs, f_max2, f_min2, f_tupT, f_tupL, f_tupO, f_lstT, f_lstL, f_lstO, f_isB, f_isI, f_isS, f_isT, f_sumL, f_sumT, f_maxO, f_minO, f_maxT, f_minT, f_sortO, f_setO, mm_app, mm_rev, mm_pop, si_l, get_0, get_s, resEn_own, resEn_bor, resEn_val, frzEn_own, frzEn_val, retEn_own, retEn_val, objEn_own, objEn_bor, isObEn_own, isObEn_bor, isLsEn_own, isLsEn_bor, putEn_own, putEn_bor, agEn_own, agEn_bor, ag_nil, ag_one, true_and, and_true, vB, List.replicate, List.length_cons, List.length_nil, List.cons_append, List.nil_append, List.set, List.map_cons, List.map_nil, agSlots, putObs, notSlot_val, notSlot_obj, List.all_cons, List.all_nil, Bool.and_self, Bool.and_true, outsFrom, obOf_bor, obOf_own, wipeE, back, isBd, isId, isSd, isTd, noneB, g0, g1, g2, g3, g4, g5, g6, g7, g8, g9, g10, g11, g13, g14, g15, g16, g17, g18, g19, g20, g21, g22, g23, setEn_nb h3]
          refine ⟨st, own, rfl, rfl, ?_⟩
          simp only [bodyCt, wE_v, wE_g, wE_k, wE_op, wE_neg, wE_cmp, wE_isN, wE_ch, wE_nt, wE_bo, wE_ife, wE_tup, wE_lst, wE_dnew, wE_ix, wE_sl, wE_call, wE_bf, wE_mut, wE_comp, onEn_val, onEn_own, onEn_bor, res_val, res_obj, res_slot, frz_val, frz_obj, frz_slot, retR_val, retR_obj, retR_slot, objAt_w, isObj_w, isLst_w, putOb_w, agEn_d, agEn_s, setV_w, setEn_no, setEn_val, setEn_own, isNEn_d, isNEn_o, asB_b, onVal_v, setR_val, setR_obj, setR_slot, setRs_nil, setRs_cons, setVs_nil, setVs_cons, asgT_one, asgT_tup, extS_l, opt_s, wFs_nil, wFs_cons, wOs_nil, wOs_cons, wAs_nil, wAs_cons, wAs_bor, wBo_one, wBo_cons, wPart_nil, wPart_one, wCond_nil, wCond_one, wIt_rng1, wIt_rng2, wIt_seq, onInt_i, onSeq_l, onSeq_t, onTup_t, wSs_nil, wSs_cons, wS_set, wS_setT, wS_par, wS_setI, wS_aug, augEn_val, augEn_own, wS_augI, wS_ex, wS_ret, wS_retN, wS_ifs, wS_fo, wS_brk, wS_pas, ix_t, ix_l, ix_o, sl_t, sl_l, sl_o, o_add, o_sub, o_mul, o_fdiv, o_mod, o_pow, o_addT, o_addDD, o_addDO, o_addOD, o_addOO, neg_i, c_lt, c_le, c_gt, c_ge, c_eqI, c_neI, f_lenT, f_lenL, f_lenO, f_int, f_intB, f_abs, f_max2, f_min2, f_tupT, f_tupL, f_tupO, f_lstT, f_lstL, f_lstO, f_isB, f_isI, f_isS, f_isT, f_sumL, f_sumT, f_maxO, f_minO, f_maxT, f_minT, f_sortO, f_setO, mm_app, mm_rev, mm_pop, si_l, get_0, get_s, resEn_own, resEn_bor, resEn_val, frzEn_own, frzEn_val, retEn_own, retEn_val, objEn_own, objEn_bor, isObEn_own, isObEn_bor, isLsEn_own, isLsEn_bor, putEn_own, putEn_bor, agEn_own, agEn_bor, ag_nil, ag_one, true_and, and_true, vB, List.replicate, List.length_cons, List.length_nil, List.cons_append, List.nil_append, List.set, List.map_cons, List.map_nil, agSlots, putObs, notSlot_val, notSlot_obj, List.all_cons, List.all_nil, Bool.and_self, Bool.and_true, outsFrom, obOf_bor, obOf_own, wipeE, back, isBd, isId, isSd, isTd, noneB, g0, g1, g2, g3, g4, g5, g6, g7, g8, g9, g10, g11, g13, g14, g15, g16, g17, g18, g19, g20, g21, g22, g23]
          refine ⟨_, rfl, shp_eO _ _, rfl, ?_⟩
          simp only [bodyCt, wE_v, wE_g, wE_k, wE_op, wE_neg, wE_cmp, wE_isN, wE_ch, wE_nt, wE_bo, wE_ife, wE_tup, wE_lst, wE_dnew, wE_ix, wE_sl, wE_call, wE_bf, wE_mut, wE_comp, onEn_val, onEn_own, onEn_bor, res_val, res_obj, res_slot, frz_val, frz_obj, frz_slot, retR_val, retR_obj, retR_slot, objAt_w, isObj_w, isLst_w, putOb_w, agEn_d, agEn_s, setV_w, setEn_no, setEn_val, setEn_own, isNEn_d, isNEn_o, asB_b, onVal_v, setR_val, setR_obj, setR_slot, setRs_nil, setRs_cons, setVs_nil, setVs_cons, asgT_one, asgT_tup, extS_l, opt_s, wFs_nil, wFs_cons, wOs_nil, wOs_cons, wAs_nil, wAs_cons, wAs_bor, wBo_one, wBo_cons, wPart_nil, wPart_one, wCond_nil, wCond_one, wIt_rng1, wIt_rng2, wIt_seq, onInt_i, onSeq_l, onSeq_t, onTup_t, wSs_nil, wSs_cons, wS_set, wS_setT, wS_par, wS_setI, wS_aug, augEn_val, augEn_own, wS_augI, wS_ex, wS_ret, wS_retN, wS_ifs, wS_fo, wS_brk, wS_pas, ix_t, ix_l, ix_o, sl_t, sl_l, sl_o, o_add, o_sub, o_mul, o_fdiv, o_mod, o_pow, o_addT, o_addDD, o_addDO, o_addOD, o_addOO, neg_i, c_lt, c_le, c_gt, c_ge, c_eqI, c_neI, f_lenT, f_lenL, f_lenO, f_int, f_intB, f_abs, f_max2, f_min2, f_tupT, f_tupL, f_tupO, f_lstT, f_lstL, f_lstO, f_isB, f_isI, f_isS, f_isT, f_sumL, f_sumT, f_maxO, f_minO, f_maxT, f_minT, f_sortO, f_setO, mm_app, mm_rev, mm_pop, si_l, get_0, get_s, resEn_own, resEn_bor, resEn_val, frzEn_own, frzEn_val, retEn_own, retEn_val, objEn_own, objEn_bor, isObEn_own, isObEn_bor, isLsEn_own, isLsEn_bor, putEn_own, putEn_bor, agEn_own, agEn_bor, ag_nil, ag_one, true_and, and_true, vB, List.replicate, List.length_cons, List.length_nil, List.cons_append, List.nil_append, List.set, List.map_cons, List.map_nil, agSlots, putObs, notSlot_val, notSlot_obj, List.all_cons, List.all_nil, Bool.and_self, Bool.and_true, outsFrom, obOf_bor, obOf_own, wipeE, back, isBd, isId, isSd, isTd, noneB, g0, g1, g2, g3, g4, g5, g6, g7, g8, g9, g10, g11, g13, g14, g15, g16, g17, g18, g19, g20, g21, g22, g23, Bool.not_true, Bool.false_eq_true, if_false]
          refine ⟨by decide, by simp [noObj, Ev.get], ?_⟩
          refine wComp_pure eP (fun x => some (.int x.1)) st _ (fun x hx kt kf h1 h2 => ?_) ?_
          · simp only [eP, bodyCt, wE_v, wE_g, wE_k, wE_op, wE_neg, wE_cmp, wE_isN, wE_ch, wE_nt, wE_bo, wE_ife, wE_tup, wE_lst, wE_dnew, wE_ix, wE_sl, wE_call, wE_bf, wE_mut, wE_comp, onEn_val, onEn_own, onEn_bor, res_val, res_obj, res_slot, frz_val, frz_obj, frz_slot, retR_val, retR_obj, retR_slot, objAt_w, isObj_w, isLst_w, putOb_w, agEn_d, agEn_s, setV_w, setEn_no, setEn_val, setEn_own, isNEn_d, isNEn_o, asB_b, onVal_v, setR_val, setR_obj, setR_slot, setRs_nil, setRs_cons, setVs_nil, setVs_cons, asgT_one, asgT_tup, extS_l, opt_s, wFs_nil, wFs_cons, wOs_nil, wOs_cons, wAs_nil, wAs_cons, wAs_bor, wBo_one, wBo_cons, wPart_nil, wPart_one, wCond_nil, wCond_one, wIt_rng1, wIt_rng2, wIt_seq, onInt_i, onSeq_l, onSeq_t, onTup_t, wSs_nil, wSs_cons, wS_set, wS_setT, wS_par, wS_setI, wS_aug, augEn_val, augEn_own, wS_augI, wS_ex, wS_ret, wS_retN, wS_ifs, wS_fo, wS_brk, wS_pas, ix_t, ix_l, ix_o, sl_t, sl_l, sl_o, o_add, o_sub, o_mul, o_fdiv, o_mod, o_pow, o_addT, o_addDD, o_addDO, o_addOD, o_addOO, neg_i, c_lt, c_le, c_gt, c_ge, c_eqI, c_neI, f_lenT, f_lenL, f_lenO, f_int, f_intB, f_abs, f_max2, f_min2, f_tupT, f_tupL, f_tupO, f_lstT, f_lstL, f_lstO, f_isB, f_isI, f_isS, f_isT, f_sumL, f_sumT, f_maxO, f_minO, f_maxT, f_minT, f_sortO, f_setO, mm_app, mm_rev, mm_pop, si_l, get_0, get_s, resEn_own, resEn_bor, resEn_val, frzEn_own, frzEn_val, retEn_own, retEn_val, objEn_own, objEn_bor, isObEn_own, isObEn_bor, isLsEn_own, isLsEn_bor, putEn_own, putEn_bor, agEn_own, agEn_bor, ag_nil, ag_one, true_and, and_true, vB, List.replicate, List.length_cons, List.length_nil, List.cons_append, List.nil_append, List.set, List.map_cons, List.map_nil, agSlots, putObs, notSlot_val, notSlot_obj, List.all_cons, List.all_nil, Bool.and_self, Bool.and_true, outsFrom, obOf_bor, obOf_own, wipeE, back, isBd, isId, isSd, isTd, noneB, g0, g1, g2, g3, g4, g5, g6, g7, g8, g9, g10, g11, g13, g14, g15, g16, g17, g18, g19, g20, g21, g22, g23, at0, if_true]
            exact h1 _ _ rfl rfl
          · rw [fm_some, show (st.map fun x => PyData.int x.1) = (st.map (·.1)).map PyData.int by rw [List.map_map]; rfl]
            simp only [bodyCt, wE_v, wE_g, wE_k, wE_op, wE_neg, wE_cmp, wE_isN, wE_ch, wE_nt, wE_bo, wE_ife, wE_tup, wE_lst, wE_dnew, wE_ix, wE_sl, wE_call, wE_bf, wE_mut, wE_comp, onEn_val, onEn_own, onEn_bor, res_val, res_obj, res_slot, frz_val, frz_obj, frz_slot, retR_val, retR_obj, retR_slot, objAt_w, isObj_w, isLst_w, putOb_w, agEn_d, agEn_s, setV_w, setEn_no, setEn_val, setEn_own, isNEn_d, isNEn_o, asB_b, onVal_v, setR_val, setR_obj, setR_slot, setRs_nil, setRs_cons, setVs_nil, setVs_cons, asgT_one, asgT_tup, extS_l, opt_s, wFs_nil, wFs_cons, wOs_nil, wOs_cons, wAs_nil, wAs_cons, wAs_bor, wBo_one, wBo_cons, wPart_nil, wPart_one, wCond_nil, wCond_one, wIt_rng1, wIt_rng2, wIt_seq, onInt_i, onSeq_l, onSeq_t, onTup_t, wSs_nil, wSs_cons, wS_set, wS_setT, wS_par, wS_setI, wS_aug, augEn_val, augEn_own, wS_augI, wS_ex, wS_ret, wS_retN, wS_ifs, wS_fo, wS_brk, wS_pas, ix_t, ix_l, ix_o, sl_t, sl_l, sl_o, o_add, o_sub, o_mul, o_fdiv, o_mod, o_pow, o_addT, o_addDD, o_addDO, o_addOD, o_addOO, neg_i, c_lt, c_le, c_gt, c_ge, c_eqI, c_neI, f_lenT, f_lenL, f_lenO, f_int, f_intB, f_abs, f_max2, f_min2, f_tupT, f_tupL, f_tupO, f_lstT, f_lstL, f_lstO, f_isB, f_isI, f_isS, f_isT, f_sumL, f_sumT, f_maxO, f_minO, f_maxT, f_minT, f_sortO, f_setO, mm_app, mm_rev, mm_pop, si_l, get_0, get_s, resEn_own, resEn_bor, resEn_val, frzEn_own, frzEn_val, retEn_own, retEn_val, objEn_own, objEn_bor, isObEn_own, isObEn_bor, isLsEn_own, isLsEn_bor, putEn_own, putEn_bor, agEn_own, agEn_bor, ag_nil, ag_one, true_and, and_true, vB, List.replicate, List.length_cons, List.length_nil, List.cons_append, List.nil_append, List.set, List.map_cons, List.map_nil, agSlots, putObs, notSlot_val, notSlot_obj, List.all_cons, List.all_nil, Bool.and_self, Bool.and_true, outsFrom, obOf_bor, obOf_own, wipeE, back, isBd, isId, isSd, isTd, noneB, g0, g1, g2, g3, g4, g5, g6, g7, g8, g9, g10, g11, g13, g14, g15, g16, g17, g18, g19, g20, g21, g22, g23, List.length_map, List.length_append]
            refine ⟨by omega, ?_⟩
            rw [show (PyData.int 0 :: PyData.int 3 :: PyData.int 5 :: List.map PyData.int (st.map (·.1))) = (0 :: 3 :: 5 :: st.map (·.1)).map PyData.int from rfl]
            refine wFor_map PyData.int (fun as ρ => ∃ l e6 e7 e8, ρ = [.bor (.lst (List.map PyData.int l)), .val (.tuple (st.map eP)), .val (.int w), .val (eO (reachFor st own)), .val (.int own), .no, e6, e7, e8] ∧ nb e6 ∧ nb e7 ∧ nb e8 ∧ ∀ f ∈ as, 0 ≤ f ∧ f < 2 ^ 20) ?_ ?_ _ _ ⟨l, e6, e7, e8, rfl, h6, h7, h8, fun f hf => ?_⟩
            · rintro far as' ρ k' ⟨l, e6, e7, e8, rfl, h6, h7, h8, hfar⟩ hk'
              obtain ⟨f0, f1⟩ := hfar far List.mem_cons_self
              simp only [bodyCt, wE_v, wE_g, wE_k, wE_op, wE_neg, wE_cmp, wE_isN, wE_ch, wE_nt, wE_bo, wE_ife, wE_tup, wE_lst, wE_dnew, wE_ix, wE_sl, wE_call, wE_bf, wE_mut, wE_comp, onEn_val, onEn_own, onEn_bor, res_val, res_obj, res_slot, frz_val, frz_obj, frz_slot, retR_val, retR_obj, retR_slot, objAt_w, isObj_w, isLst_w, putOb_w, agEn_d, agEn_s, setV_w, setEn_no, setEn_val, setEn_own, isNEn_d, isNEn_o, asB_b, onVal_v, setR_val, setR_obj, setR_slot, setRs_nil, setRs_cons, setVs_nil, setVs_cons, asgT_one, asgT_tup, extS_l, opt_s, wFs_nil, wFs_cons, wOs_nil, wOs_cons, wAs_nil, wAs_cons, wAs_bor, wBo_one, wBo_cons, wPart_nil, wPart_one, wCond_nil, wCond_one, wIt_rng1, wIt_rng2, wIt_seq, onInt_i, onSeq_l, onSeq_t, onTup_t, wSs_nil, wSs_cons, wS_set, wS_setT, wS_par, wS_setI, wS_aug, augEn_val, augEn_own, wS_augI, wS_ex, wS_ret, wS_retN, wS_ifs, wS_fo, wS_brk, wS_pas, ix_t, ix_l, ix_o, sl_t, sl_l, sl_o, o_add, o_sub, o_mul, o_fdiv, o_mod, o_pow, o_addT, o_addDD, o_addDO, o_addOD, o_addOO, neg_i, c_lt, c_le, c_gt, c_ge, c_eqI, c_neI, f_lenT, f_lenL, f_lenO, f_int, f_intB, f_abs, f_max2, f_min2, f_tupT, f_tupL, f_tupO, f_lstT, f_lstL, f_lstO, f_isB, f_isI, f_isS, f_isT, f_sumL, f_sumT, f_maxO, f_minO, f_maxT, f_minT, f_sortO, f_setO, mm_app, mm_rev, mm_pop, si_l, get_0, get_s, resEn_own, resEn_bor, resEn_val, frzEn_own, frzEn_val, retEn_own, retEn_val, objEn_own, objEn_bor, isObEn_own, isObEn_bor, isLsEn_own, isLsEn_bor, putEn_own, putEn_bor, agEn_own, agEn_bor, ag_nil, ag_one, true_and, and_true, vB, List.replicate, List.length_cons, List.length_nil, List.cons_append, List.nil_append, List.set, List.map_cons, List.map_nil, agSlots, putObs, notSlot_val, notSlot_obj, List.all_cons, List.all_nil, Bool.and_self, Bool.and_true, outsFrom, obOf_bor, obOf_own, wipeE, back, isBd, isId, isSd, isTd, noneB, g0, g1, g2, g3, g4, g5, g6, g7, g8, g9, g10, g11, g13, g14, g15, g16, g17, g18, g19, g20, g21, g22, g23, setEn_nb h6]
              refine ⟨by decide, by decide, by decide, l, 2, rfl, by decide, fun v l1 v0 v1 => ⟨rfl, ?_⟩⟩
              simp only [bodyCt, wE_v, wE_g, wE_k, wE_op, wE_neg, wE_cmp, wE_isN, wE_ch, wE_nt, wE_bo, wE_ife, wE_tup, wE_lst, wE_dnew, wE_ix, wE_sl, wE_call, wE_bf, wE_mut, wE_comp, onEn_val, onEn_own, onEn_bor, res_val, res_obj, res_slot, frz_val, frz_obj, frz_slot, retR_val, retR_obj, retR_slot, objAt_w, isObj_w, isLst_w, putOb_w, agEn_d, agEn_s, setV_w, setEn_no, setEn_val, setEn_own, isNEn_d, isNEn_o, asB_b, onVal_v, setR_val, setR_obj, setR_slot, setRs_nil, setRs_cons, setVs_nil, setVs_cons, asgT_one, asgT_tup, extS_l, opt_s, wFs_nil, wFs_cons, wOs_nil, wOs_cons, wAs_nil, wAs_cons, wAs_bor, wBo_one, wBo_cons, wPart_nil, wPart_one, wCond_nil, wCond_one, wIt_rng1, wIt_rng2, wIt_seq, onInt_i, onSeq_l, onSeq_t, onTup_t, wSs_nil, wSs_cons, wS_set, wS_setT, wS_par, wS_setI, wS_aug, augEn_val, augEn_own, wS_augI, wS_ex, wS_ret, wS_retN, wS_ifs, wS_fo, wS_brk, wS_pas, ix_t, ix_l, ix_o, sl_t, sl_l, sl_o, o_add, o_sub, o_mul, o_fdiv, o_mod, o_pow, o_addT, o_addDD, o_addDO, o_addOD, o_addOO, neg_i, c_lt, c_le, c_gt, c_ge, c_eqI, c_neI, f_lenT, f_lenL, f_lenO, f_int, f_intB, f_abs, f_max2, f_min2, f_tupT, f_tupL, f_tupO, f_lstT, f_lstL, f_lstO, f_isB, f_isI, f_isS, f_isT, f_sumL, f_sumT, f_maxO, f_minO, f_maxT, f_minT, f_sortO, f_setO, mm_app, mm_rev, mm_pop, si_l, get_0, get_s, resEn_own, resEn_bor, resEn_val, frzEn_own, frzEn_val, retEn_own, retEn_val, objEn_own, objEn_bor, isObEn_own, isObEn_bor, isLsEn_own, isLsEn_bor, putEn_own, putEn_bor, agEn_own, agEn_bor, ag_nil, ag_one, true_and, and_true, vB, List.replicate, List.length_cons, List.length_nil, List.cons_append, List.nil_append, List.set, List.map_cons, List.map_nil, agSlots, putObs, notSlot_val, notSlot_obj, List.all_cons, List.all_nil, Bool.and_self, Bool.and_true, outsFrom, obOf_bor, obOf_own, wipeE, back, isBd, isId, isSd, isTd, noneB, g0, g1, g2, g3, g4, g5, g6, g7, g8, g9, g10, g11, g13, g14, g15, g16, g17, g18, g19, g20, g21, g22, g23, intO]
              obtain ⟨p, hp, ep⟩ := at_eP (ps := [(far, 0), (0, 0 - far)]) v0 v1
              rw [show atI [PyData.tuple [.int far, .int 0], .tuple [.int 0, .int (0 - far)]] v = some (eP p) from ep]
              simp only [bodyCt, wE_v, wE_g, wE_k, wE_op, wE_neg, wE_cmp, wE_isN, wE_ch, wE_nt, wE_bo, wE_ife, wE_tup, wE_lst, wE_dnew, wE_ix, wE_sl, wE_call, wE_bf, wE_mut, wE_comp, onEn_val, onEn_own, onEn_bor, res_val, res_obj, res_slot, frz_val, frz_obj, frz_slot, retR_val, retR_obj, retR_slot, objAt_w, isObj_w, isLst_w, putOb_w, agEn_d, agEn_s, setV_w, setEn_no, setEn_val, setEn_own, isNEn_d, isNEn_o, asB_b, onVal_v, setR_val, setR_obj, setR_slot, setRs_nil, setRs_cons, setVs_nil, setVs_cons, asgT_one, asgT_tup, extS_l, opt_s, wFs_nil, wFs_cons, wOs_nil, wOs_cons, wAs_nil, wAs_cons, wAs_bor, wBo_one, wBo_cons, wPart_nil, wPart_one, wCond_nil, wCond_one, wIt_rng1, wIt_rng2, wIt_seq, onInt_i, onSeq_l, onSeq_t, onTup_t, wSs_nil, wSs_cons, wS_set, wS_setT, wS_par, wS_setI, wS_aug, augEn_val, augEn_own, wS_augI, wS_ex, wS_ret, wS_retN, wS_ifs, wS_fo, wS_brk, wS_pas, ix_t, ix_l, ix_o, sl_t, sl_l, sl_o, o_add, o_sub, o_mul, o_fdiv, o_mod, o_pow, o_addT, o_addDD, o_addDO, o_addOD, o_addOO, neg_i, c_lt, c_le, c_gt, c_ge, c_eqI, c_neI, f_lenT, f_lenL, f_lenO, f_int, f_intB, f_abs, f_max2, f_min2, f_tupT, f_tupL, f_tupO, f_lstT, f_lstL, f_lstO, f_isB, f_isI, f_isS, f_isT, f_sumL, f_sumT, f_maxO, f_minO, f_maxT, f_minT, f_sortO, f_setO, mm_app, mm_rev, mm_pop, si_l, get_0, get_s, resEn_own, resEn_bor, resEn_val, frzEn_own, frzEn_val, retEn_own, retEn_val, objEn_own, objEn_bor, isObEn_own, isObEn_bor, isLsEn_own, isLsEn_bor, putEn_own, putEn_bor, agEn_own, agEn_bor, ag_nil, ag_one, true_and, and_true, vB, List.replicate, List.length_cons, List.length_nil, List.cons_append, List.nil_append, List.set, List.map_cons, List.map_nil, agSlots, putObs, notSlot_val, notSlot_obj, List.all_cons, List.all_nil, Bool.and_self, Bool.and_true, outsFrom, obOf_bor, obOf_own, wipeE, back, isBd, isId, isSd, isTd, noneB, g0, g1, g2, g3, g4, g5, g6, g7, g8, g9, g10, g11, g13, g14, g15, g16, g17, g18, g19, g20, g21, g22, g23, intO]
              refine ⟨by decide, by decide, by decide, by decide, by decide, l1, 4, rfl, by decide, fun u l2 u0 u1 => ⟨rfl, ?_⟩⟩
              simp only [bodyCt, wE_v, wE_g, wE_k, wE_op, wE_neg, wE_cmp, wE_isN, wE_ch, wE_nt, wE_bo, wE_ife, wE_tup, wE_lst, wE_dnew, wE_ix, wE_sl, wE_call, wE_bf, wE_mut, wE_comp, onEn_val, onEn_own, onEn_bor, res_val, res_obj, res_slot, frz_val, frz_obj, frz_slot, retR_val, retR_obj, retR_slot, objAt_w, isObj_w, isLst_w, putOb_w, agEn_d, agEn_s, setV_w, setEn_no, setEn_val, setEn_own, isNEn_d, isNEn_o, asB_b, onVal_v, setR_val, setR_obj, setR_slot, setRs_nil, setRs_cons, setVs_nil, setVs_cons, asgT_one, asgT_tup, extS_l, opt_s, wFs_nil, wFs_cons, wOs_nil, wOs_cons, wAs_nil, wAs_cons, wAs_bor, wBo_one, wBo_cons, wPart_nil, wPart_one, wCond_nil, wCond_one, wIt_rng1, wIt_rng2, wIt_seq, onInt_i, onSeq_l, onSeq_t, onTup_t, wSs_nil, wSs_cons, wS_set, wS_setT, wS_par, wS_setI, wS_aug, augEn_val, augEn_own, wS_augI, wS_ex, wS_ret, wS_retN, wS_ifs, wS_fo, wS_brk, wS_pas, ix_t, ix_l, ix_o, sl_t, sl_l, sl_o, o_add, o_sub, o_mul, o_fdiv, o_mod, o_pow, o_addT, o_addDD, o_addDO, o_addOD, o_addOO, neg_i, c_lt, c_le, c_gt, c_ge, c_eqI, c_neI, f_lenT, f_lenL, f_lenO, f_int, f_intB, f_abs, f_max2, f_min2, f_tupT, f_tupL, f_tupO, f_lstT, f_lstL, f_lstO, f_isB, f_isI, f_isS, f_isT, f_sumL, f_sumT, f_maxO, f_minO, f_maxT, f_minT, f_sortO, f_setO, mm_app, mm_rev, mm_pop, si_l, get_0, get_s, resEn_own, resEn_bor, resEn_val, frzEn_own, frzEn_val, retEn_own, retEn_val, objEn_own, objEn_bor, isObEn_own, isObEn_bor, isLsEn_own, isLsEn_bor, putEn_own, putEn_bor, agEn_own, agEn_bor, ag_nil, ag_one, true_and, and_true, vB, List.replicate, List.length_cons, List.length_nil, List.cons_append, List.nil_append, List.set, List.map_cons, List.map_nil, agSlots, putObs, notSlot_val, notSlot_obj, List.all_cons, List.all_nil, Bool.and_self, Bool.and_true, outsFrom, obOf_bor, obOf_own, wipeE, back, isBd, isId, isSd, isTd, noneB, g0, g1, g2, g3, g4, g5, g6, g7, g8, g9, g10, g11, g13, g14, g15, g16, g17, g18, g19, g20, g21, g22, g23, intO]
              obtain ⟨q, hq, eq⟩ := at_eP (ps := [(3, 4), (0, 0), (0 - far, 0), (far, 1)]) u0 u1
              rw [show atI [PyData.tuple [.int 3, .int 4], .tuple [.int 0, .int 0], .tuple [.int (0 - far), .int 0], .tuple [.int far, .int 1]] u = some (eP q) from eq]
              have sp : SmP p := by
                simp only [List.mem_cons, List.not_mem_nil, or_false] at hp
                rcases hp with e | e <;> subst e <;> exact ⟨⟨by simp <;> omega, by simp <;> omega⟩, ⟨by simp <;> omega, by simp <;> omega⟩⟩
              have sq' : SmP q := by
                simp only [List.mem_cons, List.not_mem_nil, or_false] at hq
                rcases hq with e | e | e | e <;> subst e <;> exact ⟨⟨by simp <;> omega, by simp <;> omega⟩, ⟨by simp <;> omega, by simp <;> omega⟩⟩
              simp only [bodyCt, wE_v, wE_g, wE_k, wE_op, wE_neg, wE_cmp, wE_isN, wE_ch, wE_nt, wE_bo, wE_ife, wE_tup, wE_lst, wE_dnew, wE_ix, wE_sl, wE_call, wE_bf, wE_mut, wE_comp, onEn_val, onEn_own, onEn_bor, res_val, res_obj, res_slot, frz_val, frz_obj, frz_slot, retR_val, retR_obj, retR_slot, objAt_w, isObj_w, isLst_w, putOb_w, agEn_d, agEn_s, setV_w, setEn_no, setEn_val, setEn_own, isNEn_d, isNEn_o, asB_b, onVal_v, setR_val, setR_obj, setR_slot, setRs_nil, setRs_cons, setVs_nil, setVs_cons, asgT_one, asgT_tup, extS_l, opt_s, wFs_nil, wFs_cons, wOs_nil, wOs_cons, wAs_nil, wAs_cons, wAs_bor, wBo_one, wBo_cons, wPart_nil, wPart_one, wCond_nil, wCond_one, wIt_rng1, wIt_rng2, wIt_seq, onInt_i, onSeq_l, onSeq_t, onTup_t, wSs_nil, wSs_cons, wS_set, wS_setT, wS_par, wS_setI, wS_aug, augEn_val, augEn_own, wS_augI, wS_ex, wS_ret, wS_retN, wS_ifs, wS_fo, wS_brk, wS_pas, ix_t, ix_l, ix_o, sl_t, sl_l, sl_o, o_add, o_sub, o_mul, o_fdiv, o_mod, o_pow, o_addT, o_addDD, o_addDO, o_addOD, o_addOO, neg_i, c_lt, c_le, c_gt, c_ge, c_eqI, c_neI, f_lenT, f_lenL, f_lenO, f_int, f_intB, f_abs, f_max2, f_min2, f_tupT, f_tupL, f_tupO, f_lstT, f_lstL, f_lstO, f_isB, f_isI, f_isS, f_isT, f_sumL, f_sumT, f_maxO, f_minO, f_maxT, f_minT, f_sortO, f_setO, mm_app, mm_rev, mm_pop, si_l, get_0, get_s, resEn_own, resEn_bor, resEn_val, frzEn_own, frzEn_val, retEn_own, retEn_val, objEn_own, objEn_bor, isObEn_own, isObEn_bor, isLsEn_own, isLsEn_bor, putEn_own, putEn_bor, agEn_own, agEn_bor, ag_nil, ag_one, true_and, and_true, vB, List.replicate, List.length_cons, List.length_nil, List.cons_append, List.nil_append, List.set, List.map_cons, List.map_nil, agSlots, putObs, notSlot_val, notSlot_obj, List.all_cons, List.all_nil, Bool.and_self, Bool.and_true, outsFrom, obOf_bor, obOf_own, wipeE, back, isBd, isId, isSd, isTd, noneB, g0, g1, g2, g3, g4, g5, g6, g7, g8, g9, g10, g11, g13, g14, g15, g16, g17, g18, g19, g20, g21, g22, g23, setEn_nb h7, setEn_nb h8]
              refine ⟨st, p, q, own, rfl, ⟨hs, sp, sq'⟩, rfl, ?_⟩
              simp only [bodyCt, wE_v, wE_g, wE_k, wE_op, wE_neg, wE_cmp, wE_isN, wE_ch, wE_nt, wE_bo, wE_ife, wE_tup, wE_lst, wE_dnew, wE_ix, wE_sl, wE_call, wE_bf, wE_mut, wE_comp, onEn_val, onEn_own, onEn_bor, res_val, res_obj, res_slot, frz_val, frz_obj, frz_slot, retR_val, retR_obj, retR_slot, objAt_w, isObj_w, isLst_w, putOb_w, agEn_d, agEn_s, setV_w, setEn_no, setEn_val, setEn_own, isNEn_d, isNEn_o, asB_b, onVal_v, setR_val, setR_obj, setR_slot, setRs_nil, setRs_cons, setVs_nil, setVs_cons, asgT_one, asgT_tup, extS_l, opt_s, wFs_nil, wFs_cons, wOs_nil, wOs_cons, wAs_nil, wAs_cons, wAs_bor, wBo_one, wBo_cons, wPart_nil, wPart_one, wCond_nil, wCond_one, wIt_rng1, wIt_rng2, wIt_seq, onInt_i, onSeq_l, onSeq_t, onTup_t, wSs_nil, wSs_cons, wS_set, wS_setT, wS_par, wS_setI, wS_aug, augEn_val, augEn_own, wS_augI, wS_ex, wS_ret, wS_retN, wS_ifs, wS_fo, wS_brk, wS_pas, ix_t, ix_l, ix_o, sl_t, sl_l, sl_o, o_add, o_sub, o_mul, o_fdiv, o_mod, o_pow, o_addT, o_addDD, o_addDO, o_addOD, o_addOO, neg_i, c_lt, c_le, c_gt, c_ge, c_eqI, c_neI, f_lenT, f_lenL, f_lenO, f_int, f_intB, f_abs, f_max2, f_min2, f_tupT, f_tupL, f_tupO, f_lstT, f_lstL, f_lstO, f_isB, f_isI, f_isS, f_isT, f_sumL, f_sumT, f_maxO, f_minO, f_maxT, f_minT, f_sortO, f_setO, mm_app, mm_rev, mm_pop, si_l, get_0, get_s, resEn_own, resEn_bor, resEn_val, frzEn_own, frzEn_val, retEn_own, retEn_val, objEn_own, objEn_bor, isObEn_own, isObEn_bor, isLsEn_own, isLsEn_bor, putEn_own, putEn_bor, agEn_own, agEn_bor, ag_nil, ag_one, true_and, and_true, vB, List.replicate, List.length_cons, List.length_nil, List.cons_append, List.nil_append, List.set, List.map_cons, List.map_nil, agSlots, putObs, notSlot_val, notSlot_obj, List.all_cons, List.all_nil, Bool.and_self, Bool.and_true, outsFrom, obOf_bor, obOf_own, wipeE, back, isBd, isId, isSd, isTd, noneB, g0, g1, g2, g3, g4, g5, g6, g7, g8, g9, g10, g11, g13, g14, g15, g16, g17, g18, g19, g20, g21, g22, g23]
              refine ⟨st, p, q, own, rfl, ⟨hs, sp, sq'⟩, rfl, ?_⟩
              simp only [bodyCt, wE_v, wE_g, wE_k, wE_op, wE_neg, wE_cmp, wE_isN, wE_ch, wE_nt, wE_bo, wE_ife, wE_tup, wE_lst, wE_dnew, wE_ix, wE_sl, wE_call, wE_bf, wE_mut, wE_comp, onEn_val, onEn_own, onEn_bor, res_val, res_obj, res_slot, frz_val, frz_obj, frz_slot, retR_val, retR_obj, retR_slot, objAt_w, isObj_w, isLst_w, putOb_w, agEn_d, agEn_s, setV_w, setEn_no, setEn_val, setEn_own, isNEn_d, isNEn_o, asB_b, onVal_v, setR_val, setR_obj, setR_slot, setRs_nil, setRs_cons, setVs_nil, setVs_cons, asgT_one, asgT_tup, extS_l, opt_s, wFs_nil, wFs_cons, wOs_nil, wOs_cons, wAs_nil, wAs_cons, wAs_bor, wBo_one, wBo_cons, wPart_nil, wPart_one, wCond_nil, wCond_one, wIt_rng1, wIt_rng2, wIt_seq, onInt_i, onSeq_l, onSeq_t, onTup_t, wSs_nil, wSs_cons, wS_set, wS_setT, wS_par, wS_setI, wS_aug, augEn_val, augEn_own, wS_augI, wS_ex, wS_ret, wS_retN, wS_ifs, wS_fo, wS_brk, wS_pas, ix_t, ix_l, ix_o, sl_t, sl_l, sl_o, o_add, o_sub, o_mul, o_fdiv, o_mod, o_pow, o_addT, o_addDD, o_addDO, o_addOD, o_addOO, neg_i, c_lt, c_le, c_gt, c_ge, c_eqI, c_neI, f_lenT, f_lenL, f_lenO, f_int, f_intB, f_abs, f_max2, f_min2, f_tupT, f_tupL, f_tupO, f_lstT, f_lstL, f_lstO, f_isB, f_isI, f_isS, f_isT, f_sumL, f_sumT, f_maxO, f_minO, f_maxT, f_minT, f_sortO, f_setO, mm_app, mm_rev, mm_pop, si_l, get_0, get_s, resEn_own, resEn_bor, resEn_val, frzEn_own, frzEn_val, retEn_own, retEn_val, objEn_own, objEn_bor, isObEn_own, isObEn_bor, isLsEn_own, isLsEn_bor, putEn_own, putEn_bor, agEn_own, agEn_bor, ag_nil, ag_one, true_and, and_true, vB, List.replicate, List.length_cons, List.length_nil, List.cons_append, List.nil_append, List.set, List.map_cons, List.map_nil, agSlots, putObs, notSlot_val, notSlot_obj, List.all_cons, List.all_nil, Bool.and_self, Bool.and_true, outsFrom, obOf_bor, obOf_own, wipeE, back, isBd, isId, isSd, isTd, noneB, g0, g1, g2, g3, g4, g5, g6, g7, g8, g9, g10, g11, g13, g14, g15, g16, g17, g18, g19, g20, g21, g22, g23]
              refine ⟨_, rfl, trivial, rfl, ?_⟩
              simp only [bodyCt, wE_v, wE_g, wE_k, wE_op, wE_neg, wE_cmp, wE_isN, wE_ch, wE_nt, wE_bo, wE_ife, wE_tup, wE_lst, wE_dnew, wE_ix, wE_sl, wE_call, wE_bf, wE_mut, wE_comp, onEn_val, onEn_own, onEn_bor, res_val, res_obj, res_slot, frz_val, frz_obj, frz_slot, retR_val, retR_obj, retR_slot, objAt_w, isObj_w, isLst_w, putOb_w, agEn_d, agEn_s, setV_w, setEn_no, setEn_val, setEn_own, isNEn_d, isNEn_o, asB_b, onVal_v, setR_val, setR_obj, setR_slot, setRs_nil, setRs_cons, setVs_nil, setVs_cons, asgT_one, asgT_tup, extS_l, opt_s, wFs_nil, wFs_cons, wOs_nil, wOs_cons, wAs_nil, wAs_cons, wAs_bor, wBo_one, wBo_cons, wPart_nil, wPart_one, wCond_nil, wCond_one, wIt_rng1, wIt_rng2, wIt_seq, onInt_i, onSeq_l, onSeq_t, onTup_t, wSs_nil, wSs_cons, wS_set, wS_setT, wS_par, wS_setI, wS_aug, augEn_val, augEn_own, wS_augI, wS_ex, wS_ret, wS_retN, wS_ifs, wS_fo, wS_brk, wS_pas, ix_t, ix_l, ix_o, sl_t, sl_l, sl_o, o_add, o_sub, o_mul, o_fdiv, o_mod, o_pow, o_addT, o_addDD, o_addDO, o_addOD, o_addOO, neg_i, c_lt, c_le, c_gt, c_ge, c_eqI, c_neI, f_lenT, f_lenL, f_lenO, f_int, f_intB, f_abs, f_max2, f_min2, f_tupT, f_tupL, f_tupO, f_lstT, f_lstL, f_lstO, f_isB, f_isI, f_isS, f_isT, f_sumL, f_sumT, f_maxO, f_minO, f_maxT, f_minT, f_sortO, f_setO, mm_app, mm_rev, mm_pop, si_l, get_0, get_s, resEn_own, resEn_bor, resEn_val, frzEn_own, frzEn_val, retEn_own, retEn_val, objEn_own, objEn_bor, isObEn_own, isObEn_bor, isLsEn_own, isLsEn_bor, putEn_own, putEn_bor, agEn_own, agEn_bor, ag_nil, ag_one, true_and, and_true, vB, List.replicate, List.length_cons, List.length_nil, List.cons_append, List.nil_append, List.set, List.map_cons, List.map_nil, agSlots, putObs, notSlot_val, notSlot_obj, List.all_cons, List.all_nil, Bool.and_self, Bool.and_true, outsFrom, obOf_bor, obOf_own, wipeE, back, isBd, isId, isSd, isTd, noneB, g0, g1, g2, g3, g4, g5, g6, g7, g8, g9, g10, g11, g13, g14, g15, g16, g17, g18, g19, g20, g21, g22, g23, Bool.not_true, if_true]
              refine ⟨st, q, p, own, rfl, ⟨hs, sq', sp⟩, rfl, ?_⟩
              simp only [bodyCt, wE_v, wE_g, wE_k, wE_op, wE_neg, wE_cmp, wE_isN, wE_ch, wE_nt, wE_bo, wE_ife, wE_tup, wE_lst, wE_dnew, wE_ix, wE_sl, wE_call, wE_bf, wE_mut, wE_comp, onEn_val, onEn_own, onEn_bor, res_val, res_obj, res_slot, frz_val, frz_obj, frz_slot, retR_val, retR_obj, retR_slot, objAt_w, isObj_w, isLst_w, putOb_w, agEn_d, agEn_s, setV_w, setEn_no, setEn_val, setEn_own, isNEn_d, isNEn_o, asB_b, onVal_v, setR_val, setR_obj, setR_slot, setRs_nil, setRs_cons, setVs_nil, setVs_cons, asgT_one, asgT_tup, extS_l, opt_s, wFs_nil, wFs_cons, wOs_nil, wOs_cons, wAs_nil, wAs_cons, wAs_bor, wBo_one, wBo_cons, wPart_nil, wPart_one, wCond_nil, wCond_one, wIt_rng1, wIt_rng2, wIt_seq, onInt_i, onSeq_l, onSeq_t, onTup_t, wSs_nil, wSs_cons, wS_set, wS_setT, wS_par, wS_setI, wS_aug, augEn_val, augEn_own, wS_augI, wS_ex, wS_ret, wS_retN, wS_ifs, wS_fo, wS_brk, wS_pas, ix_t, ix_l, ix_o, sl_t, sl_l, sl_o, o_add, o_sub, o_mul, o_fdiv, o_mod, o_pow, o_addT, o_addDD, o_addDO, o_addOD, o_addOO, neg_i, c_lt, c_le, c_gt, c_ge, c_eqI, c_neI, f_lenT, f_lenL, f_lenO, f_int, f_intB, f_abs, f_max2, f_min2, f_tupT, f_tupL, f_tupO, f_lstT, f_lstL, f_lstO, f_isB, f_isI, f_isS, f_isT, f_sumL, f_sumT, f_maxO, f_minO, f_maxT, f_minT, f_sortO, f_setO, mm_app, mm_rev, mm_pop, si_l, get_0, get_s, resEn_own, resEn_bor, resEn_val, frzEn_own, frzEn_val, retEn_own, retEn_val, objEn_own, objEn_bor, isObEn_own, isObEn_bor, isLsEn_own, isLsEn_bor, putEn_own, putEn_bor, agEn_own, agEn_bor, ag_nil, ag_one, true_and, and_true, vB, List.replicate, List.length_cons, List.length_nil, List.cons_append, List.nil_append, List.set, List.map_cons, List.map_nil, agSlots, putObs, notSlot_val, notSlot_obj, List.all_cons, List.all_nil, Bool.and_self, Bool.and_true, outsFrom, obOf_bor, obOf_own, wipeE, back, isBd, isId, isSd, isTd, noneB, g0, g1, g2, g3, g4, g5, g6, g7, g8, g9, g10, g11, g13, g14, g15, g16, g17, g18, g19, g20, g21, g22, g23]
              refine ⟨st, q, p, own, rfl, ⟨hs, sq', sp⟩, rfl, ?_⟩
              simp only [bodyCt, wE_v, wE_g, wE_k, wE_op, wE_neg, wE_cmp, wE_isN, wE_ch, wE_nt, wE_bo, wE_ife, wE_tup, wE_lst, wE_dnew, wE_ix, wE_sl, wE_call, wE_bf, wE_mut, wE_comp, onEn_val, onEn_own, onEn_bor, res_val, res_obj, res_slot, frz_val, frz_obj, frz_slot, retR_val, retR_obj, retR_slot, objAt_w, isObj_w, isLst_w, putOb_w, agEn_d, agEn_s, setV_w, setEn_no, setEn_val, setEn_own, isNEn_d, isNEn_o, asB_b, onVal_v, setR_val, setR_obj, setR_slot, setRs_nil, setRs_cons, setVs_nil, setVs_cons, asgT_one, asgT_tup, extS_l, opt_s, wFs_nil, wFs_cons, wOs_nil, wOs_cons, wAs_nil, wAs_cons, wAs_bor, wBo_one, wBo_cons, wPart_nil, wPart_one, wCond_nil, wCond_one, wIt_rng1, wIt_rng2, wIt_seq, onInt_i, onSeq_l, onSeq_t, onTup_t, wSs_nil, wSs_cons, wS_set, wS_setT, wS_par, wS_setI, wS_aug, augEn_val, augEn_own, wS_augI, wS_ex, wS_ret, wS_retN, wS_ifs, wS_fo, wS_brk, wS_pas, ix_t, ix_l, ix_o, sl_t, sl_l, sl_o, o_add, o_sub, o_mul, o_fdiv, o_mod, o_pow, o_addT, o_addDD, o_addDO, o_addOD, o_addOO, neg_i, c_lt, c_le, c_gt, c_ge, c_eqI, c_neI, f_lenT, f_lenL, f_lenO, f_int, f_intB, f_abs, f_max2, f_min2, f_tupT, f_tupL, f_tupO, f_lstT, f_lstL, f_lstO, f_isB, f_isI, f_isS, f_isT, f_sumL, f_sumT, f_maxO, f_minO, f_maxT, f_minT, f_sortO, f_setO, mm_app, mm_rev, mm_pop, si_l, get_0, get_s, resEn_own, resEn_bor, resEn_val, frzEn_own, frzEn_val, retEn_own, retEn_val, objEn_own, objEn_bor, isObEn_own, isObEn_bor, isLsEn_own, isLsEn_bor, putEn_own, putEn_bor, agEn_own, agEn_bor, ag_nil, ag_one, true_and, and_true, vB, List.replicate, List.length_cons, List.length_nil, List.cons_append, List.nil_append, List.set, List.map_cons, List.map_nil, agSlots, putObs, notSlot_val, notSlot_obj, List.all_cons, List.all_nil, Bool.and_self, Bool.and_true, outsFrom, obOf_bor, obOf_own, wipeE, back, isBd, isId, isSd, isTd, noneB, g0, g1, g2, g3, g4, g5, g6, g7, g8, g9, g10, g11, g13, g14, g15, g16, g17, g18, g19, g20, g21, g22, g23]
              refine ⟨_, rfl, trivial, rfl, ?_⟩
              simp only [bodyCt, wE_v, wE_g, wE_k, wE_op, wE_neg, wE_cmp, wE_isN, wE_ch, wE_nt, wE_bo, wE_ife, wE_tup, wE_lst, wE_dnew, wE_ix, wE_sl, wE_call, wE_bf, wE_mut, wE_comp, onEn_val, onEn_own, onEn_bor, res_val, res_obj, res_slot, frz_val, frz_obj, frz_slot, retR_val, retR_obj, retR_slot, objAt_w, isObj_w, isLst_w, putOb_w, agEn_d, agEn_s, setV_w, setEn_no, setEn_val, setEn_own, isNEn_d, isNEn_o, asB_b, onVal_v, setR_val, setR_obj, setR_slot, setRs_nil, setRs_cons, setVs_nil, setVs_cons, asgT_one, asgT_tup, extS_l, opt_s, wFs_nil, wFs_cons, wOs_nil, wOs_cons, wAs_nil, wAs_cons, wAs_bor, wBo_one, wBo_cons, wPart_nil, wPart_one, wCond_nil, wCond_one, wIt_rng1, wIt_rng2, wIt_seq, onInt_i, onSeq_l, onSeq_t, onTup_t, wSs_nil, wSs_cons, wS_set, wS_setT, wS_par, wS_setI, wS_aug, augEn_val, augEn_own, wS_augI, wS_ex, wS_ret, wS_retN, wS_ifs, wS_fo, wS_brk, wS_pas, ix_t, ix_l, ix_o, sl_t, sl_l, sl_o, o_add, o_sub, o_mul, o_fdiv, o_mod, o_pow, o_addT, o_addDD, o_addDO, o_addOD, o_addOO, neg_i, c_lt, c_le, c_gt, c_ge, c_eqI, c_neI, f_lenT, f_lenL, f_lenO, f_int, f_intB, f_abs, f_max2, f_min2, f_tupT, f_tupL, f_tupO, f_lstT, f_lstL, f_lstO, f_isB, f_isI, f_isS, f_isT, f_sumL, f_sumT, f_maxO, f_minO, f_maxT, f_minT, f_sortO, f_setO, mm_app, mm_rev, mm_pop, si_l, get_0, get_s, resEn_own, resEn_bor, resEn_val, frzEn_own, frzEn_val, retEn_own, retEn_val, objEn_own, objEn_bor, isObEn_own, isObEn_bor, isLsEn_own, isLsEn_bor, putEn_own, putEn_bor, agEn_own, agEn_bor, ag_nil, ag_one, true_and, and_true, vB, List.replicate, List.length_cons, List.length_nil, List.cons_append, List.nil_append, List.set, List.map_cons, List.map_nil, agSlots, putObs, notSlot_val, notSlot_obj, List.all_cons, List.all_nil, Bool.and_self, Bool.and_true, outsFrom, obOf_bor, obOf_own, wipeE, back, isBd, isId, isSd, isTd, noneB, g0, g1, g2, g3, g4, g5, g6, g7, g8, g9, g10, g11, g13, g14, g15, g16, g17, g18, g19, g20, g21, g22, g23, Bool.not_true, Bool.false_eq_true, if_false]
              exact hk' _ ⟨_, _, _, _, rfl, trivial, trivial, trivial, fun f hf => hfar f (List.mem_cons_of_mem _ hf)⟩
            · rintro ρ ⟨l, e6, e7, e8, rfl, h6, h7, h8, _⟩
              exact hk _ ⟨l, _, _, e6, e7, e8, rfl, trivial, trivial, h6, h7, h8⟩
            · simp only [List.mem_cons, List.mem_map] at hf
              rcases hf with e | e | e | ⟨x, hx, e⟩
              · omega
              · omega
              · omega
              · rw [← e]; exact hs.2.1 x hx
        · rintro ρ ⟨l, e3, e4, e6, e7, e8, rfl, _⟩
          simp only [bodyCt, wE_v, wE_g, wE_k, wE_op, wE_neg, wE_cmp, wE_isN, wE_ch, wE_nt, wE_bo, wE_ife, wE_tup, wE_lst, wE_dnew, wE_ix, wE_sl, wE_call, wE_bf, wE_mut, wE_comp, onEn_val, onEn_own, onEn_bor, res_val, res_obj, res_slot, frz_val, frz_obj, frz_slot, retR_val, retR_obj, retR_slot, objAt_w, isObj_w, isLst_w, putOb_w, agEn_d, agEn_s, setV_w, setEn_no, setEn_val, setEn_own, isNEn_d, isNEn_o, asB_b, onVal_v, setR_val, setR_obj, setR_slot, setRs_nil, setRs_cons, setVs_nil, setVs_cons, asgT_one, asgT_tup, extS_l, opt_s, wFs_nil, wFs_cons, wOs_nil, wOs_cons, wAs_nil, wAs_cons, wAs_bor, wBo_one, wBo_cons, wPart_nil, wPart_one, wCond_nil, wCond_one, wIt_rng1, wIt_rng2, wIt_seq, onInt_i, onSeq_l, onSeq_t, onTup_t, wSs_nil, wSs_cons, wS_set, wS_setT, wS_par, wS_setI, wS_aug, augEn_val, augEn_own, wS_augI, wS_ex, wS_ret, wS_retN, wS_ifs, wS_fo, wS_brk, wS_pas, ix_t, ix_l, ix_o, sl_t, sl_l, sl_o, o_add, o_sub, o_mul, o_fdiv, o_mod, o_pow, o_addT, o_addDD, o_addDO, o_addOD, o_addOO, neg_i, c_lt, c_le, c_gt, c_ge, c_eqI, c_neI, f_lenT, f_lenL, f_lenO, f_int, f_intB, f_abs, f_max2, f_min2, f_tupT, f_tupL, f_tupO, f_lstT, f_lstL, f_lstO, f_isB, f_isI, f_isS, f_isT, f_sumL, f_sumT, f_maxO, f_minO, f_maxT, f_minT, f_sortO, f_setO, mm_app, mm_rev, mm_pop, si_l, get_0, get_s, resEn_own, resEn_bor, resEn_val, frzEn_own, frzEn_val, retEn_own, retEn_val, objEn_own, objEn_bor, isObEn_own, isObEn_bor, isLsEn_own, isLsEn_bor, putEn_own, putEn_bor, agEn_own, agEn_bor, ag_nil, ag_one, true_and, and_true, vB, List.replicate, List.length_cons, List.length_nil, List.cons_append, List.nil_append, List.set, List.map_cons, List.map_nil, agSlots, putObs, notSlot_val, notSlot_obj, List.all_cons, List.all_nil, Bool.and_self, Bool.and_true, outsFrom, obOf_bor, obOf_own, wipeE, back, isBd, isId, isSd, isTd, noneB, g0, g1, g2, g3, g4, g5, g6, g7, g8, g9, g10, g11, g13, g14, g15, g16, g17, g18, g19, g20, g21, g22, g23]
          exact h l
end K60

set_option Elab.async false
set_option linter.all false
set_option maxRecDepth 100000
set_option maxHeartbeats 4000000
namespace K60
open PySem L2 Bo
theorem lifted_snoc (st : List P2) (s : P2) (ms : List Mv) (m : Mv) : ((lifted st s (ms ++ [m])).length : Int) = (lifted st s ms).length + (if canLift st (seen s m.1) (seen s m.2.1) m.2.2 = true then 1 else 0) := by
  unfold lifted
  rw [List.filter_append, List.length_append]
  by_cases c : canLift st (seen s m.1) (seen s m.2.1) m.2.2 = true
  · rw [if_pos c, List.filter_cons, if_pos (show (fun m : Mv => canLift st (seen s m.1) (seen s m.2.1) m.2.2) m = true from c)]; simp
  · rw [if_neg c, List.filter_cons, if_neg (show ¬ (fun m : Mv => canLift st (seen s m.1) (seen s m.2.1) m.2.2) m = true from c)]; simp
theorem told_snoc (st : List P2) (ss : List P2) (s : P2) (ms : List Mv) : told st (ss ++ [s]) ms = told st ss ms ++ [.tuple [.int (0 - ((lifted st s ms).length : Nat)), .tuple [.int s.1, .int s.2]]] := by
  unfold told
  rw [List.map_append, Int.zero_sub]; rfl
theorem s_stand {es : List En} {K : Rs → List Ob → Prop} (h : ctStand es K) : bodyCt Γ 10 ir__law_is_stand_right es K := by
  obtain ⟨st, ss, ms, rfl, ⟨hs, hp, hm⟩, h⟩ := h
  unfold ir__law_is_stand_right
  rw [show (En.val (eS ss)) = .val (.tuple (ss.map eP)) from rfl]
  simp only [bodyCt, wE_v, wE_g, wE_k, wE_op, wE_neg, wE_cmp, wE_isN, wE_ch, wE_nt, wE_bo, wE_ife, wE_tup, wE_lst, wE_dnew, wE_ix, wE_sl, wE_call, wE_bf, wE_mut, wE_comp, onEn_val, onEn_own, onEn_bor, res_val, res_obj, res_slot, frz_val, frz_obj, frz_slot, retR_val, retR_obj, retR_slot, objAt_w, isObj_w, isLst_w, putOb_w, agEn_d, agEn_s, setV_w, setEn_no, setEn_val, setEn_own, isNEn_d, isNEn_o, asB_b, onVal_v, setR_val, setR_obj, setR_slot, setRs_nil, setRs_cons, setVs_nil, setVs_cons, asgT_one, asgT_tup, extS_l, opt_s, wFs_nil, wFs_cons, wOs_nil, wOs_cons, wAs_nil, wAs_cons, wAs_bor, wBo_one, wBo_cons, wPart_nil, wPart_one, wCond_nil, wCond_one, wIt_rng1, wIt_rng2, wIt_seq, onInt_i, onSeq_l, onSeq_t, onTup_t, wSs_nil, wSs_cons, wS_set, wS_setT, wS_par, wS_setI, wS_aug, augEn_val, augEn_own, wS_augI, wS_ex, wS_ret, wS_retN, wS_ifs, wS_fo, wS_brk, wS_pas, ix_t, ix_l, ix_o, sl_t, sl_l, sl_o, o_add, o_sub, o_mul, o_fdiv, o_mod, o_pow, o_addT, o_addDD, o_addDO, o_addOD, o_addOO, neg_i, c_lt, c_le, c_gt, c_ge, c_eqI, c_neI, f_lenT, f_lenL, f_lenO, f_int, f_intB, f_abs, f_max2, f_min2, f_tupT, f_tupL, f_tupO, f_lstT, f_lstL, f_lstO, f_isB, f_isI, f_isS, f_isT, f_sumL, f_sumT, f_maxO, f_minO, f_maxT, f_minT, f_sortO, f_setO, mm_app, mm_rev, mm_pop, si_l, get_0, get_s, resEn_own, resEn_bor, resEn_val, frzEn_own, frzEn_val, retEn_own, retEn_val, objEn_own, objEn_bor, isObEn_own, isObEn_bor, isLsEn_own, isLsEn_bor, putEn_own, putEn_bor, agEn_own, agEn_bor, ag_nil, ag_one, true_and, and_true, vB, List.replicate, List.length_cons, List.length_nil, List.cons_append, List.nil_append, List.set, List.map_cons, List.map_nil, agSlots, putObs, notSlot_val, notSlot_obj, List.all_cons, List.all_nil, Bool.and_self, Bool.and_true, outsFrom, obOf_bor, obOf_own, wipeE, back, isBd, isId, isSd, isTd, noneB, g0, g1, g2, g3, g4, g5, g6, g7, g8, g9, g10, g11, g13, g14, g15, g16, g17, g18, g19, g20, g21, g22, g23]
  refine ⟨by decide, ?_⟩
  refine wFor_map eP (fun as ρ => ∃ dn e4 e5 e6 e7 e8 e9, ss = dn ++ as ∧ ρ = [.val (eS st), .val (.tuple (ss.map eP)), .val (eMs ms), .own (.lst (told st dn ms)), e4, e5, e6, e7, e8, e9] ∧ nb e4 ∧ nb e5 ∧ nb e6 ∧ nb e7 ∧ nb e8 ∧ nb e9) ?_ ?_ ss _
    ⟨[], .no, .no, .no, .no, .no, .no, rfl, rfl, trivial, trivial, trivial, trivial, trivial, trivial⟩
  · rintro s as ρ k ⟨dn, e4, e5, e6, e7, e8, e9, hss, rfl, h4, h5, h6, h7, h8, h9⟩ hk
    have hsm : Sm s.1 ∧ Sm s.2 := hp.1 s (by rw [hss]; simp)
    rw [show eP s = .tuple [.int s.1, .int s.2] from rfl]
    rw [show (En.val (eMs ms)) = .val (.tuple (ms.map eM)) from rfl]
    simp only [bodyCt, wE_v, wE_g, wE_k, wE_op, wE_neg, wE_cmp, wE_isN, wE_ch, wE_nt, wE_bo, wE_ife, wE_tup, wE_lst, wE_dnew, wE_ix, wE_sl, wE_call, wE_bf, wE_mut, wE_comp, onEn_val, onEn_own, onEn_bor, res_val, res_obj, res_slot, frz_val, frz_obj, frz_slot, retR_val, retR_obj, retR_slot, objAt_w, isObj_w, isLst_w, putOb_w, agEn_d, agEn_s, setV_w, setEn_no, setEn_val, setEn_own, isNEn_d, isNEn_o, asB_b, onVal_v, setR_val, setR_obj, setR_slot, setRs_nil, setRs_cons, setVs_nil, setVs_cons, asgT_one, asgT_tup, extS_l, opt_s, wFs_nil, wFs_cons, wOs_nil, wOs_cons, wAs_nil, wAs_cons, wAs_bor, wBo_one, wBo_cons, wPart_nil, wPart_one, wCond_nil, wCond_one, wIt_rng1, wIt_rng2, wIt_seq, onInt_i, onSeq_l, onSeq_t, onTup_t, wSs_nil, wSs_cons, wS_set, wS_setT, wS_par, wS_setI, wS_aug, augEn_val, augEn_own, wS_augI, wS_ex, wS_ret, wS_retN, wS_ifs, wS_fo, wS_brk, wS_pas, ix_t, ix_l, ix_o, sl_t, sl_l, sl_o, o_add, o_sub, o_mul, o_fdiv, o_mod, o_pow, o_addT, o_addDD, o_addDO, o_addOD, o_addOO, neg_i, c_lt, c_le, c_gt, c_ge, c_eqI, c_neI, f_lenT, f_lenL, f_lenO, f_int, f_intB, f_abs, f_max2, f_min2, f_tupT, f_tupL, f_tupO, f_lstT, f_lstL, f_lstO, f_isB, f_isI, f_isS, f_isT, f_sumL, f_sumT, f_maxO, f_minO, f_maxT, f_minT, f_sortO, f_setO, mm_app, mm_rev, mm_pop, si_l, get_0, get_s, resEn_own, resEn_bor, resEn_val, frzEn_own, frzEn_val, retEn_own, retEn_val, objEn_own, objEn_bor, isObEn_own, isObEn_bor, isLsEn_own, isLsEn_bor, putEn_own, putEn_bor, agEn_own, agEn_bor, ag_nil, ag_one, true_and, and_true, vB, List.replicate, List.length_cons, List.length_nil, List.cons_append, List.nil_append, List.set, List.map_cons, List.map_nil, agSlots, putObs, notSlot_val, notSlot_obj, List.all_cons, List.all_nil, Bool.and_self, Bool.and_true, outsFrom, obOf_bor, obOf_own, wipeE, back, isBd, isId, isSd, isTd, noneB, g0, g1, g2, g3, g4, g5, g6, g7, g8, g9, g10, g11, g13, g14, g15, g16, g17, g18, g19, g20, g21, g22, g23, setEn_nb h4, setEn_nb h5, setEn_nb h6]
    refine wFor_map eM (fun as' ρ => ∃ dm e7 e8 e9, ms = dm ++ as' ∧ ρ = [.val (eS st), .val (.tuple (ss.map eP)), .val (.tuple (ms.map eM)), .own (.lst (told st dn ms)), .val (.int s.1), .val (.int s.2), .val (.int ((lifted st s dm).length : Nat)), e7, e8, e9] ∧ nb e7 ∧ nb e8 ∧ nb e9) ?_ ?_ ms _
      ⟨[], e7, e8, e9, rfl, rfl, h7, h8, h9⟩
    · rintro m as' ρ k' ⟨dm, e7, e8, e9, hms, rfl, h7, h8, h9⟩ hk'
      have hmm : m ∈ ms := by rw [hms]; simp
      have gm := hm.1 m hmm
      rw [show eM m = .tuple [.tuple [.int m.1.1, .int m.1.2], .tuple [.int m.2.1.1, .int m.2.1.2], .int m.2.2] from rfl]
      simp only [bodyCt, wE_v, wE_g, wE_k, wE_op, wE_neg, wE_cmp, wE_isN, wE_ch, wE_nt, wE_bo, wE_ife, wE_tup, wE_lst, wE_dnew, wE_ix, wE_sl, wE_call, wE_bf, wE_mut, wE_comp, onEn_val, onEn_own, onEn_bor, res_val, res_obj, res_slot, frz_val, frz_obj, frz_slot, retR_val, retR_obj, retR_slot, objAt_w, isObj_w, isLst_w, putOb_w, agEn_d, agEn_s, setV_w, setEn_no, setEn_val, setEn_own, isNEn_d, isNEn_o, asB_b, onVal_v, setR_val, setR_obj, setR_slot, setRs_nil, setRs_cons, setVs_nil, setVs_cons, asgT_one, asgT_tup, extS_l, opt_s, wFs_nil, wFs_cons, wOs_nil, wOs_cons, wAs_nil, wAs_cons, wAs_bor, wBo_one, wBo_cons, wPart_nil, wPart_one, wCond_nil, wCond_one, wIt_rng1, wIt_rng2, wIt_seq, onInt_i, onSeq_l, onSeq_t, onTup_t, wSs_nil, wSs_cons, wS_set, wS_setT, wS_par, wS_setI, wS_aug, augEn_val, augEn_own, wS_augI, wS_ex, wS_ret, wS_retN, wS_ifs, wS_fo, wS_brk, wS_pas, ix_t, ix_l, ix_o, sl_t, sl_l, sl_o, o_add, o_sub, o_mul, o_fdiv, o_mod, o_pow, o_addT, o_addDD, o_addDO, o_addOD, o_addOO, neg_i, c_lt, c_le, c_gt, c_ge, c_eqI, c_neI, f_lenT, f_lenL, f_lenO, f_int, f_intB, f_abs, f_max2, f_min2, f_tupT, f_tupL, f_tupO, f_lstT, f_lstL, f_lstO, f_isB, f_isI, f_isS, f_isT, f_sumL, f_sumT, f_maxO, f_minO, f_maxT, f_minT, f_sortO, f_setO, mm_app, mm_rev, mm_pop, si_l, get_0, get_s, resEn_own, resEn_bor, resEn_val, frzEn_own, frzEn_val, retEn_own, retEn_val, objEn_own, objEn_bor, isObEn_own, isObEn_bor, isLsEn_own, isLsEn_bor, putEn_own, putEn_bor, agEn_own, agEn_bor, ag_nil, ag_one, true_and, and_true, vB, List.replicate, List.length_cons, List.length_nil, List.cons_append, List.nil_append, List.set, List.map_cons, List.map_nil, agSlots, putObs, notSlot_val, notSlot_obj, List.all_cons, List.all_nil, Bool.and_self, Bool.and_true, outsFrom, obOf_bor, obOf_own, wipeE, back, isBd, isId, isSd, isTd, noneB, g0, g1, g2, g3, g4, g5, g6, g7, g8, g9, g10, g11, g13, g14, g15, g16, g17, g18, g19, g20, g21, g22, g23, setEn_nb h7, setEn_nb h8, setEn_nb h9, at0, at1]
      refine ⟨by decide, by decide, st, seen s m.1, seen s m.2.1, m.2.2, rfl, ⟨hs, sm_seen hsm gm.1, sm_seen hsm gm.2⟩, rfl, ?_⟩
      simp only [bodyCt, wE_v, wE_g, wE_k, wE_op, wE_neg, wE_cmp, wE_isN, wE_ch, wE_nt, wE_bo, wE_ife, wE_tup, wE_lst, wE_dnew, wE_ix, wE_sl, wE_call, wE_bf, wE_mut, wE_comp, onEn_val, onEn_own, onEn_bor, res_val, res_obj, res_slot, frz_val, frz_obj, frz_slot, retR_val, retR_obj, retR_slot, objAt_w, isObj_w, isLst_w, putOb_w, agEn_d, agEn_s, setV_w, setEn_no, setEn_val, setEn_own, isNEn_d, isNEn_o, asB_b, onVal_v, setR_val, setR_obj, setR_slot, setRs_nil, setRs_cons, setVs_nil, setVs_cons, asgT_one, asgT_tup, extS_l, opt_s, wFs_nil, wFs_cons, wOs_nil, wOs_cons, wAs_nil, wAs_cons, wAs_bor, wBo_one, wBo_cons, wPart_nil, wPart_one, wCond_nil, wCond_one, wIt_rng1, wIt_rng2, wIt_seq, onInt_i, onSeq_l, onSeq_t, onTup_t, wSs_nil, wSs_cons, wS_set, wS_setT, wS_par, wS_setI, wS_aug, augEn_val, augEn_own, wS_augI, wS_ex, wS_ret, wS_retN, wS_ifs, wS_fo, wS_brk, wS_pas, ix_t, ix_l, ix_o, sl_t, sl_l, sl_o, o_add, o_sub, o_mul, o_fdiv, o_mod, o_pow, o_addT, o_addDD, o_addDO, o_addOD, o_addOO, neg_i, c_lt, c_le, c_gt, c_ge, c_eqI, c_neI, f_lenT, f_lenL, f_lenO, f_int, f_intB, f_abs, f_max2, f_min2, f_tupT, f_tupL, f_tupO, f_lstT, f_lstL, f_lstO, f_isB, f_isI, f_isS, f_isT, f_sumL, f_sumT, f_maxO, f_minO, f_maxT, f_minT, f_sortO, f_setO, mm_app, mm_rev, mm_pop, si_l, get_0, get_s, resEn_own, resEn_bor, resEn_val, frzEn_own, frzEn_val, retEn_own, retEn_val, objEn_own, objEn_bor, isObEn_own, isObEn_bor, isLsEn_own, isLsEn_bor, putEn_own, putEn_bor, agEn_own, agEn_bor, ag_nil, ag_one, true_and, and_true, vB, List.replicate, List.length_cons, List.length_nil, List.cons_append, List.nil_append, List.set, List.map_cons, List.map_nil, agSlots, putObs, notSlot_val, notSlot_obj, List.all_cons, List.all_nil, Bool.and_self, Bool.and_true, outsFrom, obOf_bor, obOf_own, wipeE, back, isBd, isId, isSd, isTd, noneB, g0, g1, g2, g3, g4, g5, g6, g7, g8, g9, g10, g11, g13, g14, g15, g16, g17, g18, g19, g20, g21, g22, g23]
      rw [← lifted_snoc]
      exact hk' _ ⟨dm ++ [m], _, _, _, by rw [hms, List.append_assoc]; rfl, rfl, trivial, trivial, trivial⟩
    · rintro ρ ⟨dm, e7, e8, e9, hms, rfl, h7, h8, h9⟩
      rw [List.append_nil] at hms
      subst hms
      simp only [bodyCt, wE_v, wE_g, wE_k, wE_op, wE_neg, wE_cmp, wE_isN, wE_ch, wE_nt, wE_bo, wE_ife, wE_tup, wE_lst, wE_dnew, wE_ix, wE_sl, wE_call, wE_bf, wE_mut, wE_comp, onEn_val, onEn_own, onEn_bor, res_val, res_obj, res_slot, frz_val, frz_obj, frz_slot, retR_val, retR_obj, retR_slot, objAt_w, isObj_w, isLst_w, putOb_w, agEn_d, agEn_s, setV_w, setEn_no, setEn_val, setEn_own, isNEn_d, isNEn_o, asB_b, onVal_v, setR_val, setR_obj, setR_slot, setRs_nil, setRs_cons, setVs_nil, setVs_cons, asgT_one, asgT_tup, extS_l, opt_s, wFs_nil, wFs_cons, wOs_nil, wOs_cons, wAs_nil, wAs_cons, wAs_bor, wBo_one, wBo_cons, wPart_nil, wPart_one, wCond_nil, wCond_one, wIt_rng1, wIt_rng2, wIt_seq, onInt_i, onSeq_l, onSeq_t, onTup_t, wSs_nil, wSs_cons, wS_set, wS_setT, wS_par, wS_setI, wS_aug, augEn_val, augEn_own, wS_augI, wS_ex, wS_ret, wS_retN, wS_ifs, wS_fo, wS_brk, wS_pas, ix_t, ix_l, ix_o, sl_t, sl_l, sl_o, o_add, o_sub, o_mul, o_fdiv, o_mod, o_pow, o_addT, o_addDD, o_addDO, o_addOD, o_addOO, neg_i, c_lt, c_le, c_gt, c_ge, c_eqI, c_neI, f_lenT, f_lenL, f_lenO, f_int, f_intB, f_abs, f_max2, f_min2, f_tupT, f_tupL, f_tupO, f_lstT, f_lstL, f_lstO, f_isB, f_isI, f_isS, f_isT, f_sumL, f_sumT, f_maxO, f_minO, f_maxT, f_minT, f_sortO, f_setO, mm_app, mm_rev, mm_pop, si_l, get_0, get_s, resEn_own, resEn_bor, resEn_val, frzEn_own, frzEn_val, retEn_own, retEn_val, objEn_own, objEn_bor, isObEn_own, isObEn_bor, isLsEn_own, isLsEn_bor, putEn_own, putEn_bor, agEn_own, agEn_bor, ag_nil, ag_one, true_and, and_true, vB, List.replicate, List.length_cons, List.length_nil, List.cons_append, List.nil_append, List.set, List.map_cons, List.map_nil, agSlots, putObs, notSlot_val, notSlot_obj, List.all_cons, List.all_nil, Bool.and_self, Bool.and_true, outsFrom, obOf_bor, obOf_own, wipeE, back, isBd, isId, isSd, isTd, noneB, g0, g1, g2, g3, g4, g5, g6, g7, g8, g9, g10, g11, g13, g14, g15, g16, g17, g18, g19, g20, g21, g22, g23]
      have tl : (told st dn ms).length = dn.length := List.length_map ..
      have dl : dn.length ≤ 1000 := by
        have := hp.2
        rw [hss, List.length_append] at this
        omega
      refine ⟨by decide, by decide, by omega, ?_⟩
      rw [← told_snoc]
      exact hk _ ⟨dn ++ [s], _, _, _, _, _, _, by rw [hss, List.append_assoc]; rfl, rfl, trivial, trivial, trivial, h7, h8, h9⟩
  · rintro ρ ⟨dn, e4, e5, e6, e7, e8, e9, hss, rfl, h4, h5, h6, h7, h8, h9⟩
    rw [List.append_nil] at hss
    subst hss
    cases e : told st ss ms with
    | nil =>
      simp only [bodyCt, wE_v, wE_g, wE_k, wE_op, wE_neg, wE_cmp, wE_isN, wE_ch, wE_nt, wE_bo, wE_ife, wE_tup, wE_lst, wE_dnew, wE_ix, wE_sl, wE_call, wE_bf, wE_mut, wE_comp, onEn_val, onEn_own, onEn_bor, res_val, res_obj, res_slot, frz_val, frz_obj, frz_slot, retR_val, retR_obj, retR_slot, objAt_w, isObj_w, isLst_w, putOb_w, agEn_d, agEn_s, setV_w, setEn_no, setEn_val, setEn_own, isNEn_d, isNEn_o, asB_b, onVal_v, setR_val, setR_obj, setR_slot, setRs_nil, setRs_cons, setVs_nil, setVs_cons, asgT_one, asgT_tup, extS_l, opt_s, wFs_nil, wFs_cons, wOs_nil, wOs_cons, wAs_nil, wAs_cons, wAs_bor, wBo_one, wBo_cons, wPart_nil, wPart_one, wCond_nil, wCond_one, wIt_rng1, wIt_rng2, wIt_seq, onInt_i, onSeq_l, onSeq_t, onTup_t, wSs_nil, wSs_cons, wS_set, wS_setT, wS_par, wS_setI, wS_aug, augEn_val, augEn_own, wS_augI, wS_ex, wS_ret, wS_retN, wS_ifs, wS_fo, wS_brk, wS_pas, ix_t, ix_l, ix_o, sl_t, sl_l, sl_o, o_add, o_sub, o_mul, o_fdiv, o_mod, o_pow, o_addT, o_addDD, o_addDO, o_addOD, o_addOO, neg_i, c_lt, c_le, c_gt, c_ge, c_eqI, c_neI, f_lenT, f_lenL, f_lenO, f_int, f_intB, f_abs, f_max2, f_min2, f_tupT, f_tupL, f_tupO, f_lstT, f_lstL, f_lstO, f_isB, f_isI, f_isS, f_isT, f_sumL, f_sumT, f_maxO, f_minO, f_maxT, f_minT, f_sortO, f_setO, mm_app, mm_rev, mm_pop, si_l, get_0, get_s, resEn_own, resEn_bor, resEn_val, frzEn_own, frzEn_val, retEn_own, retEn_val, objEn_own, objEn_bor, isObEn_own, isObEn_bor, isLsEn_own, isLsEn_bor, putEn_own, putEn_bor, agEn_own, agEn_bor, ag_nil, ag_one, true_and, and_true, vB, List.replicate, List.length_cons, List.length_nil, List.cons_append, List.nil_append, List.set, List.map_cons, List.map_nil, agSlots, putObs, notSlot_val, notSlot_obj, List.all_cons, List.all_nil, Bool.and_self, Bool.and_true, outsFrom, obOf_bor, obOf_own, wipeE, back, isBd, isId, isSd, isTd, noneB, g0, g1, g2, g3, g4, g5, g6, g7, g8, g9, g10, g11, g13, g14, g15, g16, g17, g18, g19, g20, g21, g22, g23]
      refine ⟨st, ss, ms, rfl, ⟨hs, hp, hm⟩, rfl, ?_⟩
      have : best st ss ms = .none := by unfold best; rw [e]
      rw [this]
      simp only [bodyCt, wE_v, wE_g, wE_k, wE_op, wE_neg, wE_cmp, wE_isN, wE_ch, wE_nt, wE_bo, wE_ife, wE_tup, wE_lst, wE_dnew, wE_ix, wE_sl, wE_call, wE_bf, wE_mut, wE_comp, onEn_val, onEn_own, onEn_bor, res_val, res_obj, res_slot, frz_val, frz_obj, frz_slot, retR_val, retR_obj, retR_slot, objAt_w, isObj_w, isLst_w, putOb_w, agEn_d, agEn_s, setV_w, setEn_no, setEn_val, setEn_own, isNEn_d, isNEn_o, asB_b, onVal_v, setR_val, setR_obj, setR_slot, setRs_nil, setRs_cons, setVs_nil, setVs_cons, asgT_one, asgT_tup, extS_l, opt_s, wFs_nil, wFs_cons, wOs_nil, wOs_cons, wAs_nil, wAs_cons, wAs_bor, wBo_one, wBo_cons, wPart_nil, wPart_one, wCond_nil, wCond_one, wIt_rng1, wIt_rng2, wIt_seq, onInt_i, onSeq_l, onSeq_t, onTup_t, wSs_nil, wSs_cons, wS_set, wS_setT, wS_par, wS_setI, wS_aug, augEn_val, augEn_own, wS_augI, wS_ex, wS_ret, wS_retN, wS_ifs, wS_fo, wS_brk, wS_pas, ix_t, ix_l, ix_o, sl_t, sl_l, sl_o, o_add, o_sub, o_mul, o_fdiv, o_mod, o_pow, o_addT, o_addDD, o_addDO, o_addOD, o_addOO, neg_i, c_lt, c_le, c_gt, c_ge, c_eqI, c_neI, f_lenT, f_lenL, f_lenO, f_int, f_intB, f_abs, f_max2, f_min2, f_tupT, f_tupL, f_tupO, f_lstT, f_lstL, f_lstO, f_isB, f_isI, f_isS, f_isT, f_sumL, f_sumT, f_maxO, f_minO, f_maxT, f_minT, f_sortO, f_setO, mm_app, mm_rev, mm_pop, si_l, get_0, get_s, resEn_own, resEn_bor, resEn_val, frzEn_own, frzEn_val, retEn_own, retEn_val, objEn_own, objEn_bor, isObEn_own, isObEn_bor, isLsEn_own, isLsEn_bor, putEn_own, putEn_bor, agEn_own, agEn_bor, ag_nil, ag_one, true_and, and_true, vB, List.replicate, List.length_cons, List.length_nil, List.cons_append, List.nil_append, List.set, List.map_cons, List.map_nil, agSlots, putObs, notSlot_val, notSlot_obj, List.all_cons, List.all_nil, Bool.and_self, Bool.and_true, outsFrom, obOf_bor, obOf_own, wipeE, back, isBd, isId, isSd, isTd, noneB, g0, g1, g2, g3, g4, g5, g6, g7, g8, g9, g10, g11, g13, g14, g15, g16, g17, g18, g19, g20, g21, g22, g23]
      exact h
    | cons x r =>
      obtain ⟨t1, t2, a, s, t3⟩ := told_min e
      have c2 : ¬ (((x :: r).length : Nat) : Int) = 0 := by rw [List.length_cons]; omega
      rw [List.length_cons] at c2
      simp only [bodyCt, wE_v, wE_g, wE_k, wE_op, wE_neg, wE_cmp, wE_isN, wE_ch, wE_nt, wE_bo, wE_ife, wE_tup, wE_lst, wE_dnew, wE_ix, wE_sl, wE_call, wE_bf, wE_mut, wE_comp, onEn_val, onEn_own, onEn_bor, res_val, res_obj, res_slot, frz_val, frz_obj, frz_slot, retR_val, retR_obj, retR_slot, objAt_w, isObj_w, isLst_w, putOb_w, agEn_d, agEn_s, setV_w, setEn_no, setEn_val, setEn_own, isNEn_d, isNEn_o, asB_b, onVal_v, setR_val, setR_obj, setR_slot, setRs_nil, setRs_cons, setVs_nil, setVs_cons, asgT_one, asgT_tup, extS_l, opt_s, wFs_nil, wFs_cons, wOs_nil, wOs_cons, wAs_nil, wAs_cons, wAs_bor, wBo_one, wBo_cons, wPart_nil, wPart_one, wCond_nil, wCond_one, wIt_rng1, wIt_rng2, wIt_seq, onInt_i, onSeq_l, onSeq_t, onTup_t, wSs_nil, wSs_cons, wS_set, wS_setT, wS_par, wS_setI, wS_aug, augEn_val, augEn_own, wS_augI, wS_ex, wS_ret, wS_retN, wS_ifs, wS_fo, wS_brk, wS_pas, ix_t, ix_l, ix_o, sl_t, sl_l, sl_o, o_add, o_sub, o_mul, o_fdiv, o_mod, o_pow, o_addT, o_addDD, o_addDO, o_addOD, o_addOO, neg_i, c_lt, c_le, c_gt, c_ge, c_eqI, c_neI, f_lenT, f_lenL, f_lenO, f_int, f_intB, f_abs, f_max2, f_min2, f_tupT, f_tupL, f_tupO, f_lstT, f_lstL, f_lstO, f_isB, f_isI, f_isS, f_isT, f_sumL, f_sumT, f_maxO, f_minO, f_maxT, f_minT, f_sortO, f_setO, mm_app, mm_rev, mm_pop, si_l, get_0, get_s, resEn_own, resEn_bor, resEn_val, frzEn_own, frzEn_val, retEn_own, retEn_val, objEn_own, objEn_bor, isObEn_own, isObEn_bor, isLsEn_own, isLsEn_bor, putEn_own, putEn_bor, agEn_own, agEn_bor, ag_nil, ag_one, true_and, and_true, vB, List.replicate, List.length_cons, List.length_nil, List.cons_append, List.nil_append, List.set, List.map_cons, List.map_nil, agSlots, putObs, notSlot_val, notSlot_obj, List.all_cons, List.all_nil, Bool.and_self, Bool.and_true, outsFrom, obOf_bor, obOf_own, wipeE, back, isBd, isId, isSd, isTd, noneB, g0, g1, g2, g3, g4, g5, g6, g7, g8, g9, g10, g11, g13, g14, g15, g16, g17, g18, g19, g20, g21, g22, g23, c2, decide_false, Bool.false_eq_true, if_false, f_minD t1]
      refine ⟨st, ss, ms, rfl, ⟨hs, hp, hm⟩, rfl, ?_⟩
      have : best st ss ms = .tuple [eP s, .int (-a)] := by
        unfold best
        rw [e]
        show turnB (W.minD x r) = _
        rw [t3]; rfl
      rw [this]
      simp only [bodyCt, wE_v, wE_g, wE_k, wE_op, wE_neg, wE_cmp, wE_isN, wE_ch, wE_nt, wE_bo, wE_ife, wE_tup, wE_lst, wE_dnew, wE_ix, wE_sl, wE_call, wE_bf, wE_mut, wE_comp, onEn_val, onEn_own, onEn_bor, res_val, res_obj, res_slot, frz_val, frz_obj, frz_slot, retR_val, retR_obj, retR_slot, objAt_w, isObj_w, isLst_w, putOb_w, agEn_d, agEn_s, setV_w, setEn_no, setEn_val, setEn_own, isNEn_d, isNEn_o, asB_b, onVal_v, setR_val, setR_obj, setR_slot, setRs_nil, setRs_cons, setVs_nil, setVs_cons, asgT_one, asgT_tup, extS_l, opt_s, wFs_nil, wFs_cons, wOs_nil, wOs_cons, wAs_nil, wAs_cons, wAs_bor, wBo_one, wBo_cons, wPart_nil, wPart_one, wCond_nil, wCond_one, wIt_rng1, wIt_rng2, wIt_seq, onInt_i, onSeq_l, onSeq_t, onTup_t, wSs_nil, wSs_cons, wS_set, wS_setT, wS_par, wS_setI, wS_aug, augEn_val, augEn_own, wS_augI, wS_ex, wS_ret, wS_retN, wS_ifs, wS_fo, wS_brk, wS_pas, ix_t, ix_l, ix_o, sl_t, sl_l, sl_o, o_add, o_sub, o_mul, o_fdiv, o_mod, o_pow, o_addT, o_addDD, o_addDO, o_addOD, o_addOO, neg_i, c_lt, c_le, c_gt, c_ge, c_eqI, c_neI, f_lenT, f_lenL, f_lenO, f_int, f_intB, f_abs, f_max2, f_min2, f_tupT, f_tupL, f_tupO, f_lstT, f_lstL, f_lstO, f_isB, f_isI, f_isS, f_isT, f_sumL, f_sumT, f_maxO, f_minO, f_maxT, f_minT, f_sortO, f_setO, mm_app, mm_rev, mm_pop, si_l, get_0, get_s, resEn_own, resEn_bor, resEn_val, frzEn_own, frzEn_val, retEn_own, retEn_val, objEn_own, objEn_bor, isObEn_own, isObEn_bor, isLsEn_own, isLsEn_bor, putEn_own, putEn_bor, agEn_own, agEn_bor, ag_nil, ag_one, true_and, and_true, vB, List.replicate, List.length_cons, List.length_nil, List.cons_append, List.nil_append, List.set, List.map_cons, List.map_nil, agSlots, putObs, notSlot_val, notSlot_obj, List.all_cons, List.all_nil, Bool.and_self, Bool.and_true, outsFrom, obOf_bor, obOf_own, wipeE, back, isBd, isId, isSd, isTd, noneB, g0, g1, g2, g3, g4, g5, g6, g7, g8, g9, g10, g11, g13, g14, g15, g16, g17, g18, g19, g20, g21, g22, g23, at0, at1, f_minD t1]
      refine ⟨t2, ?_⟩
      rw [t3]
      simp only [bodyCt, wE_v, wE_g, wE_k, wE_op, wE_neg, wE_cmp, wE_isN, wE_ch, wE_nt, wE_bo, wE_ife, wE_tup, wE_lst, wE_dnew, wE_ix, wE_sl, wE_call, wE_bf, wE_mut, wE_comp, onEn_val, onEn_own, onEn_bor, res_val, res_obj, res_slot, frz_val, frz_obj, frz_slot, retR_val, retR_obj, retR_slot, objAt_w, isObj_w, isLst_w, putOb_w, agEn_d, agEn_s, setV_w, setEn_no, setEn_val, setEn_own, isNEn_d, isNEn_o, asB_b, onVal_v, setR_val, setR_obj, setR_slot, setRs_nil, setRs_cons, setVs_nil, setVs_cons, asgT_one, asgT_tup, extS_l, opt_s, wFs_nil, wFs_cons, wOs_nil, wOs_cons, wAs_nil, wAs_cons, wAs_bor, wBo_one, wBo_cons, wPart_nil, wPart_one, wCond_nil, wCond_one, wIt_rng1, wIt_rng2, wIt_seq, onInt_i, onSeq_l, onSeq_t, onTup_t, wSs_nil, wSs_cons, wS_set, wS_setT, wS_par, wS_setI, wS_aug, augEn_val, augEn_own, wS_augI, wS_ex, wS_ret, wS_retN, wS_ifs, wS_fo, wS_brk, wS_pas, ix_t, ix_l, ix_o, sl_t, sl_l, sl_o, o_add, o_sub, o_mul, o_fdiv, o_mod, o_pow, o_addT, o_addDD, o_addDO, o_addOD, o_addOO, neg_i, c_lt, c_le, c_gt, c_ge, c_eqI, c_neI, f_lenT, f_lenL, f_lenO, f_int, f_intB, f_abs, f_max2, f_min2, f_tupT, f_tupL, f_tupO, f_lstT, f_lstL, f_lstO, f_isB, f_isI, f_isS, f_isT, f_sumL, f_sumT, f_maxO, f_minO, f_maxT, f_minT, f_sortO, f_setO, mm_app, mm_rev, mm_pop, si_l, get_0, get_s, resEn_own, resEn_bor, resEn_val, frzEn_own, frzEn_val, retEn_own, retEn_val, objEn_own, objEn_bor, isObEn_own, isObEn_bor, isLsEn_own, isLsEn_bor, putEn_own, putEn_bor, agEn_own, agEn_bor, ag_nil, ag_one, true_and, and_true, vB, List.replicate, List.length_cons, List.length_nil, List.cons_append, List.nil_append, List.set, List.map_cons, List.map_nil, agSlots, putObs, notSlot_val, notSlot_obj, List.all_cons, List.all_nil, Bool.and_self, Bool.and_true, outsFrom, obOf_bor, obOf_own, wipeE, back, isBd, isId, isSd, isTd, noneB, g0, g1, g2, g3, g4, g5, g6, g7, g8, g9, g10, g11, g13, g14, g15, g16, g17, g18, g19, g20, g21, g22, g23, at0, at1, f_minD t1]
      refine ⟨t2, ?_⟩
      rw [Int.zero_sub]
      refine ⟨by decide, _, rfl, ⟨by simp, fun y hy => ?_⟩, rfl, h⟩
      simp only [List.mem_cons, List.not_mem_nil, or_false] at hy
      rcases hy with e | e <;> rw [e]
      · exact shp_eP _ _
      · trivial
end K60

set_option Elab.async false
set_option linter.all false
set_option maxRecDepth 100000
set_option maxHeartbeats 8000000
namespace K60
open PySem L2 Bo
theorem lifts_spec : ∀ (ws : List Int) (mi : Int), (∀ x ∈ ws, 0 ≤ x) → 0 ≤ mi → ∃ k : Nat, lifts mi ws = k ∧ k ≤ ws.length ∧ ∀ i, i ≤ ws.length → ((ws.take i).sum ≤ mi ↔ i ≤ k)
  | [], mi, _, h => ⟨0, rfl, Nat.le_refl _, fun i hi => by simp at hi; subst hi; simpa using h⟩
  | w :: r, mi, hw, h => by
    have hr : ∀ x ∈ r, 0 ≤ x := fun x hx => hw x (List.mem_cons_of_mem _ hx)
    have w0 := hw w List.mem_cons_self
    by_cases c : w ≤ mi
    · obtain ⟨k, e, hk, hs⟩ := lifts_spec r (mi - w) hr (by omega)
      refine ⟨k + 1, by show (if w ≤ mi then 1 + lifts (mi - w) r else 0) = _; rw [if_pos c, e]; omega, by simp only [List.length_cons]; omega, fun i hi => ?_⟩
      cases i with
      | zero => simp; omega
      | succ j =>
        have := hs j (by simp only [List.length_cons] at hi; omega)
        simp only [List.take_succ_cons, List.sum_cons]
        constructor
        · intro q
          have := this.mp (by omega)
          omega
        · intro q
          have := this.mpr (by omega)
          omega
    · refine ⟨0, by show (if w ≤ mi then 1 + lifts (mi - w) r else 0) = _; rw [if_neg c]; rfl, Nat.zero_le _, fun i hi => ?_⟩
      cases i with
      | zero => simp; omega
      | succ j =>
        have sn : 0 ≤ (r.take j).sum := sum_nn _ fun x hx => hr x (List.mem_of_mem_take hx)
        simp only [List.take_succ_cons, List.sum_cons]
        constructor
        · intro q; omega
        · intro q; omega
where
  sum_nn : ∀ l : List Int, (∀ x ∈ l, 0 ≤ x) → 0 ≤ l.sum
    | [], _ => Int.le_refl _
    | x :: l, h => by
      have := h x List.mem_cons_self
      have := sum_nn l fun y hy => h y (List.mem_cons_of_mem _ hy)
      rw [List.sum_cons]
      omega
def fitL (ws : List Int) (mi : Int) : List Int := (List.range (ws.length + 1)).filterMap fun i => if (ws.take i).sum ≤ mi then some (i : Int) else none
theorem fm_all {α β : Type} (f : α → Option β) (g : α → β) : ∀ l : List α, (∀ x ∈ l, f x = some (g x)) → l.filterMap f = l.map g
  | [], _ => rfl
  | x :: l, h => by
    rw [List.filterMap_cons, h x List.mem_cons_self, List.map_cons, fm_all f g l fun y hy => h y (List.mem_cons_of_mem _ hy)]
theorem fm_no {α β : Type} (f : α → Option β) : ∀ l : List α, (∀ x ∈ l, f x = none) → l.filterMap f = []
  | [], _ => rfl
  | x :: l, h => by
    rw [List.filterMap_cons, h x List.mem_cons_self]
    exact fm_no f l fun y hy => h y (List.mem_cons_of_mem _ hy)
theorem fit_last {ws : List Int} {mi : Int} (hw : ∀ x ∈ ws, 0 ≤ x) (hm : 0 ≤ mi) : atI ((fitL ws mi).map PyData.int) (-1) = some (.int (lifts mi ws)) := by
  obtain ⟨k, e, hk, hs⟩ := lifts_spec ws mi hw hm
  have e2 : fitL ws mi = (List.range k).map (fun i : Nat => (i : Int)) ++ [(k : Int)] := by
    unfold fitL
    rw [show ws.length + 1 = (k + 1) + (ws.length - k) by omega, List.range_add, List.filterMap_append]
    rw [fm_all _ (fun i : Nat => (i : Int)) (List.range (k + 1)) fun i hi => ?_, fm_no _ ((List.range (ws.length - k)).map fun x => k + 1 + x) fun i hi => ?_]
    · rw [List.append_nil, List.range_succ, List.map_append]; rfl
    · obtain ⟨x, hx, rfl⟩ := List.mem_map.mp hi
      rw [List.mem_range] at hx
      exact if_neg fun q => by
        have := (hs _ (by omega)).mp q
        omega
    · rw [List.mem_range] at hi
      exact if_pos ((hs i (by omega)).mpr (by omega))
  rw [e2, List.map_append, List.map_singleton, atI_last, e]
theorem cut_take (ws : List Int) (a : Nat) : cutL (ws.map PyData.int) none (some (0 + (a : Nat))) = (ws.take a).map PyData.int := by
  unfold cutL
  rw [show (0 + ((a : Nat) : Int)) = ((a : Nat) : Int) by omega, HT.sIx_nat, List.length_map]
  show ((ws.map PyData.int).drop 0).take (min a ws.length - 0) = _
  rw [List.drop_zero, Nat.sub_zero, ← List.map_take]
  congr 1
  by_cases c : a ≤ ws.length
  · rw [Nat.min_eq_left c]
  · rw [Nat.min_eq_right (by omega), List.take_of_length_le (Nat.le_refl _), List.take_of_length_le (by omega)]
/-! ### the written examples -/
instance instDSm (i : Int) : Decidable (Sm i) := by unfold Sm; infer_instance
instance instDSm2 (i : Int) : Decidable (Sm2 i) := by unfold Sm2; infer_instance
instance instDSmP (p : P2) : Decidable (SmP p) := by unfold SmP; infer_instance
def few : List P2 := [(5, 20), (8, 12), (13, 3)]
def held : List Mv := [((0, 0), (5, 0), 20), ((10, 0), (12, 0), 12), ((0, 9), (0, 0), 3)]
def stands3 : List P2 := [(4, 0), (2, 0), (40, 40)]
theorem good_few : Good few := ⟨by decide, by decide, by decide⟩
theorem x1 : bearsAt few 5 = 20 := by decide
theorem x2 : bearsAt few 6 = 12 := by decide
theorem x3 : bearsAt few 14 = 0 := by decide
theorem x4 : reachFor few 12 = some 8 := by decide
theorem x5 : reachFor few 21 = none := by decide
theorem x6 : canLift few (3, 4) (0, 5) 20 = true := by decide
theorem x7 : canLift few (3, 4) (4, 4) 20 = false := by decide
theorem x8 : canLift few (6, 6) (0, 0) 12 = false := by decide
theorem x9 : maxO (twoL few [(6, 10), (9, 4)] 16) = some 8 := by decide
theorem x10 : lifts 60 [30, 30, 1] = 2 := by decide
theorem x11 : lifts 60 [50, 20, 10] = 1 := by decide
theorem x12 : best few stands3 held = .tuple [eP (4, 0), .int 3] := by
  have c1 : (lifted few (4, 0) held).length = 3 := by decide
  have c2 : (lifted few (2, 0) held).length = 2 := by decide
  have c3 : (lifted few (40, 40) held).length = 0 := by decide
  have e : told few stands3 held = [.tuple [.int (-3), eP (4, 0)], .tuple [.int (-2), eP (2, 0)], .tuple [.int (-0), eP (40, 40)]] := by
    show [PyData.tuple [.int (-((lifted few (4, 0) held).length : Nat)), eP (4, 0)], .tuple [.int (-((lifted few (2, 0) held).length : Nat)), eP (2, 0)], .tuple [.int (-((lifted few (40, 40) held).length : Nat)), eP (40, 40)]] = _
    rw [c1, c2, c3]; rfl
  have d1 : W.dataLt (.tuple [.int (-2), eP (2, 0)]) (.tuple [.int (-3), eP (4, 0)]) = false := by decide +kernel
  have d2 : W.dataLt (.tuple [.int (-0), eP (40, 40)]) (.tuple [.int (-3), eP (4, 0)]) = false := by decide +kernel
  unfold best
  rw [e]
  show turnB (W.minD _ _) = _
  unfold W.minD
  simp only [List.foldl_cons, List.foldl_nil, d1, d2, Bool.false_eq_true, if_false]
  rfl
theorem good_69 : Good [(6, 10), (9, 4)] := ⟨by decide, by decide, by decide⟩
theorem good_st : GoodP stands3 := ⟨by decide, by decide⟩
theorem good_held : GoodM held := ⟨by decide, by decide⟩
end K60

set_option Elab.async false
set_option linter.all false
set_option maxRecDepth 100000
set_option maxHeartbeats 8000000
namespace K60
open PySem L2 Bo
def sc (c : Int) (p : P2) : P2 := (p.1, p.2 * c)
theorem good_map {st : List P2} (h : Good st) (c : Int) : Good (st.map (sc c)) := by
  refine ⟨?_, fun p hp => ?_, by rw [List.length_map]; exact h.2.2⟩
  · rw [List.pairwise_map]; exact h.1
  · obtain ⟨q, hq, rfl⟩ := List.mem_map.mp hp
    exact h.2.1 q hq
theorem maxO_congr {a b : List Int} (h : ∀ x, x ∈ a ↔ x ∈ b) : maxO a = maxO b := by
  by_cases c : a = []
  · have d : b = [] := List.eq_nil_iff_forall_not_mem.mpr fun x hx => by
      have := (h x).mpr hx
      rw [c] at this
      cases this
    rw [c, d]
  · have d : b ≠ [] := fun e => by
      obtain ⟨x, hx⟩ := List.exists_mem_of_ne_nil a c
      have := (h x).mp hx
      rw [e] at this
      cases this
    rw [maxO_pos c, maxO_pos d]
    have m1 := maxI_mem c
    have m2 := maxI_mem d
    have := m2.2 _ ((h _).mp m1.1)
    have := m1.2 _ ((h _).mpr m2.1)
    exact congrArg some (by omega)
def bothL (a b : List P2) (w : Int) : List Int := (setU ((a ++ b).map (·.1))).filterMap fun r => if w ≤ bearsAt a r + bearsAt b r then some r else none
theorem bothL_mem {a b : List P2} {w x : Int} : x ∈ bothL a b w ↔ x ∈ (a ++ b).map (·.1) ∧ w ≤ bearsAt a x + bearsAt b x := by
  unfold bothL
  rw [List.mem_filterMap]
  constructor
  · rintro ⟨r, hr, e⟩
    split at e
    · cases e
      exact ⟨(setU_mem _ _).mp hr, by assumption⟩
    · cases e
  · rintro ⟨h1, h2⟩
    exact ⟨x, (setU_mem _ _).mpr h1, if_pos h2⟩
theorem twoL_mem {a b : List P2} {w x : Int} : x ∈ twoL a b w ↔ x ∈ (a ++ b).map (·.1) ∧ w ≤ bearsAt a x + bearsAt b x := by
  unfold twoL
  rw [List.mem_filterMap, List.mem_map]
  constructor
  · rintro ⟨p, hp, e⟩
    split at e
    · cases e
      exact ⟨⟨p, hp, rfl⟩, by assumption⟩
    · cases e
  · rintro ⟨⟨p, hp, rfl⟩, h2⟩
    exact ⟨p, hp, if_pos h2⟩
theorem two_both (a b : List P2) (w : Int) : maxO (twoL a b w) = maxO (bothL a b w) := maxO_congr fun x => by rw [twoL_mem, bothL_mem]
theorem two_both' (a b : List P2) (w : Int) : maxO (twoL b a w) = maxO (bothL a b w) := maxO_congr fun x => by
  rw [twoL_mem, bothL_mem, List.map_append, List.map_append, List.mem_append, List.mem_append, Int.add_comm (bearsAt b x), or_comm]
theorem both_sorted (a b : List P2) (w : Int) : (bothL a b w).Pairwise (· < ·) := by
  unfold bothL
  rw [List.pairwise_filterMap]
  refine (setU_sorted _).imp fun {a b} hab x hx y hy => ?_
  split at hx
  · split at hy
    · cases hx; cases hy; exact hab
    · cases hy
  · cases hx
theorem insU_len (x : Int) : ∀ l : List Int, (insU x l).length ≤ l.length + 1
  | [] => Nat.le_refl _
  | y :: r => by
    unfold insU
    split
    · simp
    · split
      · simp
      · have := insU_len x r
        simp only [List.length_cons]
        omega
theorem setU_len : ∀ l : List Int, (setU l).length ≤ l.length
  | [] => Nat.le_refl _
  | x :: r => by
    have h1 := insU_len x (setU r)
    have h2 := setU_len r
    show (insU x (setU r)).length ≤ r.length + 1
    omega
/-- no object in it -/
def nv : En → Prop
  | .no => True
  | .val _ => True
  | _ => False
theorem nv_nb {e : En} (h : nv e) : nb e := by cases e <;> trivial
theorem noObj_one {ρ : Ev} {i : Nat} (h : nv (ρ.get i)) : noObj ρ [i] := fun v hv => by
  rw [List.mem_singleton] at hv
  subst hv
  unfold nv at h
  cases e : ρ.get v <;> rw [e] at h <;> first | trivial | exact h.elim
theorem wComp_ind0 {vs : List Nat} {tg : Tg} {cond : Ev → (Bool → Ev → Prop) → Prop} {elt : Ev → (PyData → Ev → Prop) → Prop} {α : Type} (enc : α → PyData) (I : List α → List PyData → Ev → Prop) {K : List PyData → Ev → Prop}
    (step : ∀ a r acc ρ (kt : PyData → Ev → Prop) (kf : Ev → Prop), I (a :: r) acc ρ → (∀ x ρ', I r (acc ++ [x]) (wipeE ρ' vs) → kt x ρ') → (∀ ρ', I r acc (wipeE ρ' vs) → kf ρ') → asgT tg (enc a) ρ fun ρ1 => cond ρ1 fun b ρ2 => if b = true then elt ρ2 kt else kf ρ2)
    (fin : ∀ acc ρ, I [] acc ρ → K acc ρ) (as : List α) (ρ : Ev) (h : I as [] ρ) : wComp vs tg cond elt (as.map enc) ρ K := by
  have := wComp_ind enc I step fin as [] ρ h
  simpa only [List.nil_append] using this
theorem s_law {es : List En} {K : Rs → List Ob → Prop} (h : lawCt es K) : bodyCt Γ 20 ir_law es K := by
  obtain ⟨ns, rfl, hn, h⟩ := h
  unfold ir_law
  simp only [bodyCt, wE_v, wE_g, wE_k, wE_op, wE_neg, wE_cmp, wE_isN, wE_ch, wE_nt, wE_bo, wE_ife, wE_tup, wE_lst, wE_dnew, wE_ix, wE_sl, wE_call, wE_bf, wE_mut, wE_comp, onEn_val, onEn_own, onEn_bor, res_val, res_obj, res_slot, frz_val, frz_obj, frz_slot, retR_val, retR_obj, retR_slot, objAt_w, isObj_w, isLst_w, putOb_w, agEn_d, agEn_s, setV_w, setEn_no, setEn_val, setEn_own, isNEn_d, isNEn_o, asB_b, onVal_v, setR_val, setR_obj, setR_slot, setRs_nil, setRs_cons, setVs_nil, setVs_cons, asgT_one, asgT_tup, extS_l, opt_s, wFs_nil, wFs_cons, wOs_nil, wOs_cons, wAs_nil, wAs_cons, wAs_bor, wBo_one, wBo_cons, wPart_nil, wPart_one, wCond_nil, wCond_one, wIt_rng1, wIt_rng2, wIt_seq, onInt_i, onSeq_l, onSeq_t, onTup_t, wSs_nil, wSs_cons, wS_set, wS_setT, wS_par, wS_setI, wS_aug, augEn_val, augEn_own, wS_augI, wS_ex, wS_ret, wS_retN, wS_ifs, wS_fo, wS_brk, wS_pas, ix_t, ix_l, ix_o, sl_t, sl_l, sl_o, o_add, o_sub, o_mul, o_fdiv, o_mod, o_pow, o_addT, o_addDD, o_addDO, o_addOD, o_addOO, neg_i, c_lt, c_le, c_gt, c_ge, c_eqI, c_neI, f_lenT, f_lenL, f_lenO, f_int, f_intB, f_abs, f_max2, f_min2, f_tupT, f_tupL, f_tupO, f_lstT, f_lstL, f_lstO, f_isB, f_isI, f_isS, f_isT, f_sumL, f_sumT, f_maxO, f_minO, f_maxT, f_minT, f_sortO, f_setO, mm_app, mm_rev, mm_pop, si_l, get_0, get_s, resEn_own, resEn_bor, resEn_val, frzEn_own, frzEn_val, retEn_own, retEn_val, objEn_own, objEn_bor, isObEn_own, isObEn_bor, isLsEn_own, isLsEn_bor, putEn_own, putEn_bor, agEn_own, agEn_bor, ag_nil, ag_one, true_and, and_true, vB, List.replicate, List.length_cons, List.length_nil, List.cons_append, List.nil_append, List.set, List.map_cons, List.map_nil, agSlots, putObs, notSlot_val, notSlot_obj, List.all_cons, List.all_nil, Bool.and_self, Bool.and_true, outsFrom, obOf_bor, obOf_own, wipeE, back, isBd, isId, isSd, isTd, noneB, g0, g1, g2, g3, g4, g5, g6, g7, g8, g9, g10, g11, g13, g14, g15, g16, g17, g18, g19, g20, g21, g22, g23]
  refine ⟨ns, 300, rfl, ⟨by decide, by decide⟩, fun l0 => ⟨rfl, ?_⟩⟩
  simp only [bodyCt, wE_v, wE_g, wE_k, wE_op, wE_neg, wE_cmp, wE_isN, wE_ch, wE_nt, wE_bo, wE_ife, wE_tup, wE_lst, wE_dnew, wE_ix, wE_sl, wE_call, wE_bf, wE_mut, wE_comp, onEn_val, onEn_own, onEn_bor, res_val, res_obj, res_slot, frz_val, frz_obj, frz_slot, retR_val, retR_obj, retR_slot, objAt_w, isObj_w, isLst_w, putOb_w, agEn_d, agEn_s, setV_w, setEn_no, setEn_val, setEn_own, isNEn_d, isNEn_o, asB_b, onVal_v, setR_val, setR_obj, setR_slot, setRs_nil, setRs_cons, setVs_nil, setVs_cons, asgT_one, asgT_tup, extS_l, opt_s, wFs_nil, wFs_cons, wOs_nil, wOs_cons, wAs_nil, wAs_cons, wAs_bor, wBo_one, wBo_cons, wPart_nil, wPart_one, wCond_nil, wCond_one, wIt_rng1, wIt_rng2, wIt_seq, onInt_i, onSeq_l, onSeq_t, onTup_t, wSs_nil, wSs_cons, wS_set, wS_setT, wS_par, wS_setI, wS_aug, augEn_val, augEn_own, wS_augI, wS_ex, wS_ret, wS_retN, wS_ifs, wS_fo, wS_brk, wS_pas, ix_t, ix_l, ix_o, sl_t, sl_l, sl_o, o_add, o_sub, o_mul, o_fdiv, o_mod, o_pow, o_addT, o_addDD, o_addDO, o_addOD, o_addOO, neg_i, c_lt, c_le, c_gt, c_ge, c_eqI, c_neI, f_lenT, f_lenL, f_lenO, f_int, f_intB, f_abs, f_max2, f_min2, f_tupT, f_tupL, f_tupO, f_lstT, f_lstL, f_lstO, f_isB, f_isI, f_isS, f_isT, f_sumL, f_sumT, f_maxO, f_minO, f_maxT, f_minT, f_sortO, f_setO, mm_app, mm_rev, mm_pop, si_l, get_0, get_s, resEn_own, resEn_bor, resEn_val, frzEn_own, frzEn_val, retEn_own, retEn_val, objEn_own, objEn_bor, isObEn_own, isObEn_bor, isLsEn_own, isLsEn_bor, putEn_own, putEn_bor, agEn_own, agEn_bor, ag_nil, ag_one, true_and, and_true, vB, List.replicate, List.length_cons, List.length_nil, List.cons_append, List.nil_append, List.set, List.map_cons, List.map_nil, agSlots, putObs, notSlot_val, notSlot_obj, List.all_cons, List.all_nil, Bool.and_self, Bool.and_true, outsFrom, obOf_bor, obOf_own, wipeE, back, isBd, isId, isSd, isTd, noneB, g0, g1, g2, g3, g4, g5, g6, g7, g8, g9, g10, g11, g13, g14, g15, g16, g17, g18, g19, g20, g21, g22, g23, intO]
  refine ⟨ns, l0, rfl, fun cell l1 _ => ⟨rfl, ?_⟩⟩
  simp only [bodyCt, wE_v, wE_g, wE_k, wE_op, wE_neg, wE_cmp, wE_isN, wE_ch, wE_nt, wE_bo, wE_ife, wE_tup, wE_lst, wE_dnew, wE_ix, wE_sl, wE_call, wE_bf, wE_mut, wE_comp, onEn_val, onEn_own, onEn_bor, res_val, res_obj, res_slot, frz_val, frz_obj, frz_slot, retR_val, retR_obj, retR_slot, objAt_w, isObj_w, isLst_w, putOb_w, agEn_d, agEn_s, setV_w, setEn_no, setEn_val, setEn_own, isNEn_d, isNEn_o, asB_b, onVal_v, setR_val, setR_obj, setR_slot, setRs_nil, setRs_cons, setVs_nil, setVs_cons, asgT_one, asgT_tup, extS_l, opt_s, wFs_nil, wFs_cons, wOs_nil, wOs_cons, wAs_nil, wAs_cons, wAs_bor, wBo_one, wBo_cons, wPart_nil, wPart_one, wCond_nil, wCond_one, wIt_rng1, wIt_rng2, wIt_seq, onInt_i, onSeq_l, onSeq_t, onTup_t, wSs_nil, wSs_cons, wS_set, wS_setT, wS_par, wS_setI, wS_aug, augEn_val, augEn_own, wS_augI, wS_ex, wS_ret, wS_retN, wS_ifs, wS_fo, wS_brk, wS_pas, ix_t, ix_l, ix_o, sl_t, sl_l, sl_o, o_add, o_sub, o_mul, o_fdiv, o_mod, o_pow, o_addT, o_addDD, o_addDO, o_addOD, o_addOO, neg_i, c_lt, c_le, c_gt, c_ge, c_eqI, c_neI, f_lenT, f_lenL, f_lenO, f_int, f_intB, f_abs, f_max2, f_min2, f_tupT, f_tupL, f_tupO, f_lstT, f_lstL, f_lstO, f_isB, f_isI, f_isS, f_isT, f_sumL, f_sumT, f_maxO, f_minO, f_maxT, f_minT, f_sortO, f_setO, mm_app, mm_rev, mm_pop, si_l, get_0, get_s, resEn_own, resEn_bor, resEn_val, frzEn_own, frzEn_val, retEn_own, retEn_val, objEn_own, objEn_bor, isObEn_own, isObEn_bor, isLsEn_own, isLsEn_bor, putEn_own, putEn_bor, agEn_own, agEn_bor, ag_nil, ag_one, true_and, and_true, vB, List.replicate, List.length_cons, List.length_nil, List.cons_append, List.nil_append, List.set, List.map_cons, List.map_nil, agSlots, putObs, notSlot_val, notSlot_obj, List.all_cons, List.all_nil, Bool.and_self, Bool.and_true, outsFrom, obOf_bor, obOf_own, wipeE, back, isBd, isId, isSd, isTd, noneB, g0, g1, g2, g3, g4, g5, g6, g7, g8, g9, g10, g11, g13, g14, g15, g16, g17, g18, g19, g20, g21, g22, g23, intO]
  refine ⟨⟨by decide, by decide, by decide⟩, by decide, by decide, l1, 3, rfl, by decide, fun v l2 v0 v1 => ⟨rfl, ?_⟩⟩
  rw [show (10 : Int) ^ (20 : Int).toNat = 10 ^ 20 from rfl]
  simp only [bodyCt, wE_v, wE_g, wE_k, wE_op, wE_neg, wE_cmp, wE_isN, wE_ch, wE_nt, wE_bo, wE_ife, wE_tup, wE_lst, wE_dnew, wE_ix, wE_sl, wE_call, wE_bf, wE_mut, wE_comp, onEn_val, onEn_own, onEn_bor, res_val, res_obj, res_slot, frz_val, frz_obj, frz_slot, retR_val, retR_obj, retR_slot, objAt_w, isObj_w, isLst_w, putOb_w, agEn_d, agEn_s, setV_w, setEn_no, setEn_val, setEn_own, isNEn_d, isNEn_o, asB_b, onVal_v, setR_val, setR_obj, setR_slot, setRs_nil, setRs_cons, setVs_nil, setVs_cons, asgT_one, asgT_tup, extS_l, opt_s, wFs_nil, wFs_cons, wOs_nil, wOs_cons, wAs_nil, wAs_cons, wAs_bor, wBo_one, wBo_cons, wPart_nil, wPart_one, wCond_nil, wCond_one, wIt_rng1, wIt_rng2, wIt_seq, onInt_i, onSeq_l, onSeq_t, onTup_t, wSs_nil, wSs_cons, wS_set, wS_setT, wS_par, wS_setI, wS_aug, augEn_val, augEn_own, wS_augI, wS_ex, wS_ret, wS_retN, wS_ifs, wS_fo, wS_brk, wS_pas, ix_t, ix_l, ix_o, sl_t, sl_l, sl_o, o_add, o_sub, o_mul, o_fdiv, o_mod, o_pow, o_addT, o_addDD, o_addDO, o_addOD, o_addOO, neg_i, c_lt, c_le, c_gt, c_ge, c_eqI, c_neI, f_lenT, f_lenL, f_lenO, f_int, f_intB, f_abs, f_max2, f_min2, f_tupT, f_tupL, f_tupO, f_lstT, f_lstL, f_lstO, f_isB, f_isI, f_isS, f_isT, f_sumL, f_sumT, f_maxO, f_minO, f_maxT, f_minT, f_sortO, f_setO, mm_app, mm_rev, mm_pop, si_l, get_0, get_s, resEn_own, resEn_bor, resEn_val, frzEn_own, frzEn_val, retEn_own, retEn_val, objEn_own, objEn_bor, isObEn_own, isObEn_bor, isLsEn_own, isLsEn_bor, putEn_own, putEn_bor, agEn_own, agEn_bor, ag_nil, ag_one, true_and, and_true, vB, List.replicate, List.length_cons, List.length_nil, List.cons_append, List.nil_append, List.set, List.map_cons, List.map_nil, agSlots, putObs, notSlot_val, notSlot_obj, List.all_cons, List.all_nil, Bool.and_self, Bool.and_true, outsFrom, obOf_bor, obOf_own, wipeE, back, isBd, isId, isSd, isTd, noneB, g0, g1, g2, g3, g4, g5, g6, g7, g8, g9, g10, g11, g13, g14, g15, g16, g17, g18, g19, g20, g21, g22, g23, intO]
  rw [show atI [PyData.int 1, PyData.int 1, PyData.int (1 + (if cell < 0 then -cell else cell) % 10 ^ 20)] v = some (.int (List.getD [1, 1, 1 + (if cell < 0 then -cell else cell) % 10 ^ 20] v.toNat 0)) from atI_int (l := [1, 1, 1 + (if cell < 0 then -cell else cell) % 10 ^ 20]) v0 v1]
  simp only [bodyCt, wE_v, wE_g, wE_k, wE_op, wE_neg, wE_cmp, wE_isN, wE_ch, wE_nt, wE_bo, wE_ife, wE_tup, wE_lst, wE_dnew, wE_ix, wE_sl, wE_call, wE_bf, wE_mut, wE_comp, onEn_val, onEn_own, onEn_bor, res_val, res_obj, res_slot, frz_val, frz_obj, frz_slot, retR_val, retR_obj, retR_slot, objAt_w, isObj_w, isLst_w, putOb_w, agEn_d, agEn_s, setV_w, setEn_no, setEn_val, setEn_own, isNEn_d, isNEn_o, asB_b, onVal_v, setR_val, setR_obj, setR_slot, setRs_nil, setRs_cons, setVs_nil, setVs_cons, asgT_one, asgT_tup, extS_l, opt_s, wFs_nil, wFs_cons, wOs_nil, wOs_cons, wAs_nil, wAs_cons, wAs_bor, wBo_one, wBo_cons, wPart_nil, wPart_one, wCond_nil, wCond_one, wIt_rng1, wIt_rng2, wIt_seq, onInt_i, onSeq_l, onSeq_t, onTup_t, wSs_nil, wSs_cons, wS_set, wS_setT, wS_par, wS_setI, wS_aug, augEn_val, augEn_own, wS_augI, wS_ex, wS_ret, wS_retN, wS_ifs, wS_fo, wS_brk, wS_pas, ix_t, ix_l, ix_o, sl_t, sl_l, sl_o, o_add, o_sub, o_mul, o_fdiv, o_mod, o_pow, o_addT, o_addDD, o_addDO, o_addOD, o_addOO, neg_i, c_lt, c_le, c_gt, c_ge, c_eqI, c_neI, f_lenT, f_lenL, f_lenO, f_int, f_intB, f_abs, f_max2, f_min2, f_tupT, f_tupL, f_tupO, f_lstT, f_lstL, f_lstO, f_isB, f_isI, f_isS, f_isT, f_sumL, f_sumT, f_maxO, f_minO, f_maxT, f_minT, f_sortO, f_setO, mm_app, mm_rev, mm_pop, si_l, get_0, get_s, resEn_own, resEn_bor, resEn_val, frzEn_own, frzEn_val, retEn_own, retEn_val, objEn_own, objEn_bor, isObEn_own, isObEn_bor, isLsEn_own, isLsEn_bor, putEn_own, putEn_bor, agEn_own, agEn_bor, ag_nil, ag_one, true_and, and_true, vB, List.replicate, List.length_cons, List.length_nil, List.cons_append, List.nil_append, List.set, List.map_cons, List.map_nil, agSlots, putObs, notSlot_val, notSlot_obj, List.all_cons, List.all_nil, Bool.and_self, Bool.and_true, outsFrom, obOf_bor, obOf_own, wipeE, back, isBd, isId, isSd, isTd, noneB, g0, g1, g2, g3, g4, g5, g6, g7, g8, g9, g10, g11, g13, g14, g15, g16, g17, g18, g19, g20, g21, g22, g23, intO]
  generalize List.getD [1, 1, 1 + (if cell < 0 then -cell else cell) % 10 ^ 20] v.toNat 0 = scale
  refine ⟨l2, 6, rfl, ⟨by decide, by decide⟩, fun st0 l3 gs0 gb0 => ⟨rfl, ?_⟩⟩
  rw [show eS st0 = .tuple (st0.map eP) from rfl]
  simp only [bodyCt, wE_v, wE_g, wE_k, wE_op, wE_neg, wE_cmp, wE_isN, wE_ch, wE_nt, wE_bo, wE_ife, wE_tup, wE_lst, wE_dnew, wE_ix, wE_sl, wE_call, wE_bf, wE_mut, wE_comp, onEn_val, onEn_own, onEn_bor, res_val, res_obj, res_slot, frz_val, frz_obj, frz_slot, retR_val, retR_obj, retR_slot, objAt_w, isObj_w, isLst_w, putOb_w, agEn_d, agEn_s, setV_w, setEn_no, setEn_val, setEn_own, isNEn_d, isNEn_o, asB_b, onVal_v, setR_val, setR_obj, setR_slot, setRs_nil, setRs_cons, setVs_nil, setVs_cons, asgT_one, asgT_tup, extS_l, opt_s, wFs_nil, wFs_cons, wOs_nil, wOs_cons, wAs_nil, wAs_cons, wAs_bor, wBo_one, wBo_cons, wPart_nil, wPart_one, wCond_nil, wCond_one, wIt_rng1, wIt_rng2, wIt_seq, onInt_i, onSeq_l, onSeq_t, onTup_t, wSs_nil, wSs_cons, wS_set, wS_setT, wS_par, wS_setI, wS_aug, augEn_val, augEn_own, wS_augI, wS_ex, wS_ret, wS_retN, wS_ifs, wS_fo, wS_brk, wS_pas, ix_t, ix_l, ix_o, sl_t, sl_l, sl_o, o_add, o_sub, o_mul, o_fdiv, o_mod, o_pow, o_addT, o_addDD, o_addDO, o_addOD, o_addOO, neg_i, c_lt, c_le, c_gt, c_ge, c_eqI, c_neI, f_lenT, f_lenL, f_lenO, f_int, f_intB, f_abs, f_max2, f_min2, f_tupT, f_tupL, f_tupO, f_lstT, f_lstL, f_lstO, f_isB, f_isI, f_isS, f_isT, f_sumL, f_sumT, f_maxO, f_minO, f_maxT, f_minT, f_sortO, f_setO, mm_app, mm_rev, mm_pop, si_l, get_0, get_s, resEn_own, resEn_bor, resEn_val, frzEn_own, frzEn_val, retEn_own, retEn_val, objEn_own, objEn_bor, isObEn_own, isObEn_bor, isLsEn_own, isLsEn_bor, putEn_own, putEn_bor, agEn_own, agEn_bor, ag_nil, ag_one, true_and, and_true, vB, List.replicate, List.length_cons, List.length_nil, List.cons_append, List.nil_append, List.set, List.map_cons, List.map_nil, agSlots, putObs, notSlot_val, notSlot_obj, List.all_cons, List.all_nil, Bool.and_self, Bool.and_true, outsFrom, obOf_bor, obOf_own, wipeE, back, isBd, isId, isSd, isTd, noneB, g0, g1, g2, g3, g4, g5, g6, g7, g8, g9, g10, g11, g13, g14, g15, g16, g17, g18, g19, g20, g21, g22, g23, intO]
  refine ⟨by simp [noObj, Ev.get], ?_⟩
  refine wComp_pure eP (fun p => some (eP (sc scale p))) st0 _ (fun p hp kt kf h1 h2 => ?_) ?_
  · have := gb0 p hp
    simp only [eP, bodyCt, wE_v, wE_g, wE_k, wE_op, wE_neg, wE_cmp, wE_isN, wE_ch, wE_nt, wE_bo, wE_ife, wE_tup, wE_lst, wE_dnew, wE_ix, wE_sl, wE_call, wE_bf, wE_mut, wE_comp, onEn_val, onEn_own, onEn_bor, res_val, res_obj, res_slot, frz_val, frz_obj, frz_slot, retR_val, retR_obj, retR_slot, objAt_w, isObj_w, isLst_w, putOb_w, agEn_d, agEn_s, setV_w, setEn_no, setEn_val, setEn_own, isNEn_d, isNEn_o, asB_b, onVal_v, setR_val, setR_obj, setR_slot, setRs_nil, setRs_cons, setVs_nil, setVs_cons, asgT_one, asgT_tup, extS_l, opt_s, wFs_nil, wFs_cons, wOs_nil, wOs_cons, wAs_nil, wAs_cons, wAs_bor, wBo_one, wBo_cons, wPart_nil, wPart_one, wCond_nil, wCond_one, wIt_rng1, wIt_rng2, wIt_seq, onInt_i, onSeq_l, onSeq_t, onTup_t, wSs_nil, wSs_cons, wS_set, wS_setT, wS_par, wS_setI, wS_aug, augEn_val, augEn_own, wS_augI, wS_ex, wS_ret, wS_retN, wS_ifs, wS_fo, wS_brk, wS_pas, ix_t, ix_l, ix_o, sl_t, sl_l, sl_o, o_add, o_sub, o_mul, o_fdiv, o_mod, o_pow, o_addT, o_addDD, o_addDO, o_addOD, o_addOO, neg_i, c_lt, c_le, c_gt, c_ge, c_eqI, c_neI, f_lenT, f_lenL, f_lenO, f_int, f_intB, f_abs, f_max2, f_min2, f_tupT, f_tupL, f_tupO, f_lstT, f_lstL, f_lstO, f_isB, f_isI, f_isS, f_isT, f_sumL, f_sumT, f_maxO, f_minO, f_maxT, f_minT, f_sortO, f_setO, mm_app, mm_rev, mm_pop, si_l, get_0, get_s, resEn_own, resEn_bor, resEn_val, frzEn_own, frzEn_val, retEn_own, retEn_val, objEn_own, objEn_bor, isObEn_own, isObEn_bor, isLsEn_own, isLsEn_bor, putEn_own, putEn_bor, agEn_own, agEn_bor, ag_nil, ag_one, true_and, and_true, vB, List.replicate, List.length_cons, List.length_nil, List.cons_append, List.nil_append, List.set, List.map_cons, List.map_nil, agSlots, putObs, notSlot_val, notSlot_obj, List.all_cons, List.all_nil, Bool.and_self, Bool.and_true, outsFrom, obOf_bor, obOf_own, wipeE, back, isBd, isId, isSd, isTd, noneB, g0, g1, g2, g3, g4, g5, g6, g7, g8, g9, g10, g11, g13, g14, g15, g16, g17, g18, g19, g20, g21, g22, g23, if_true]
    exact ⟨mul_smallL (by omega) (by omega), by decide, h1 _ _ rfl rfl⟩
  · rw [fm_some, show (st0.map fun a => eP (sc scale a)) = (st0.map (sc scale)).map eP by rw [List.map_map]; rfl]
    have gs := good_map gs0 scale
    generalize st0.map (sc scale) = st at gs
    simp only [bodyCt, wE_v, wE_g, wE_k, wE_op, wE_neg, wE_cmp, wE_isN, wE_ch, wE_nt, wE_bo, wE_ife, wE_tup, wE_lst, wE_dnew, wE_ix, wE_sl, wE_call, wE_bf, wE_mut, wE_comp, onEn_val, onEn_own, onEn_bor, res_val, res_obj, res_slot, frz_val, frz_obj, frz_slot, retR_val, retR_obj, retR_slot, objAt_w, isObj_w, isLst_w, putOb_w, agEn_d, agEn_s, setV_w, setEn_no, setEn_val, setEn_own, isNEn_d, isNEn_o, asB_b, onVal_v, setR_val, setR_obj, setR_slot, setRs_nil, setRs_cons, setVs_nil, setVs_cons, asgT_one, asgT_tup, extS_l, opt_s, wFs_nil, wFs_cons, wOs_nil, wOs_cons, wAs_nil, wAs_cons, wAs_bor, wBo_one, wBo_cons, wPart_nil, wPart_one, wCond_nil, wCond_one, wIt_rng1, wIt_rng2, wIt_seq, onInt_i, onSeq_l, onSeq_t, onTup_t, wSs_nil, wSs_cons, wS_set, wS_setT, wS_par, wS_setI, wS_aug, augEn_val, augEn_own, wS_augI, wS_ex, wS_ret, wS_retN, wS_ifs, wS_fo, wS_brk, wS_pas, ix_t, ix_l, ix_o, sl_t, sl_l, sl_o, o_add, o_sub, o_mul, o_fdiv, o_mod, o_pow, o_addT, o_addDD, o_addDO, o_addOD, o_addOO, neg_i, c_lt, c_le, c_gt, c_ge, c_eqI, c_neI, f_lenT, f_lenL, f_lenO, f_int, f_intB, f_abs, f_max2, f_min2, f_tupT, f_tupL, f_tupO, f_lstT, f_lstL, f_lstO, f_isB, f_isI, f_isS, f_isT, f_sumL, f_sumT, f_maxO, f_minO, f_maxT, f_minT, f_sortO, f_setO, mm_app, mm_rev, mm_pop, si_l, get_0, get_s, resEn_own, resEn_bor, resEn_val, frzEn_own, frzEn_val, retEn_own, retEn_val, objEn_own, objEn_bor, isObEn_own, isObEn_bor, isLsEn_own, isLsEn_bor, putEn_own, putEn_bor, agEn_own, agEn_bor, ag_nil, ag_one, true_and, and_true, vB, List.replicate, List.length_cons, List.length_nil, List.cons_append, List.nil_append, List.set, List.map_cons, List.map_nil, agSlots, putObs, notSlot_val, notSlot_obj, List.all_cons, List.all_nil, Bool.and_self, Bool.and_true, outsFrom, obOf_bor, obOf_own, wipeE, back, isBd, isId, isSd, isTd, noneB, g0, g1, g2, g3, g4, g5, g6, g7, g8, g9, g10, g11, g13, g14, g15, g16, g17, g18, g19, g20, g21, g22, g23, intO]
    refine ⟨l3, 6, rfl, ⟨by decide, by decide⟩, fun ot0 l4 go0 gbo0 => ⟨rfl, ?_⟩⟩
    rw [show eS ot0 = .tuple (ot0.map eP) from rfl]
    simp only [bodyCt, wE_v, wE_g, wE_k, wE_op, wE_neg, wE_cmp, wE_isN, wE_ch, wE_nt, wE_bo, wE_ife, wE_tup, wE_lst, wE_dnew, wE_ix, wE_sl, wE_call, wE_bf, wE_mut, wE_comp, onEn_val, onEn_own, onEn_bor, res_val, res_obj, res_slot, frz_val, frz_obj, frz_slot, retR_val, retR_obj, retR_slot, objAt_w, isObj_w, isLst_w, putOb_w, agEn_d, agEn_s, setV_w, setEn_no, setEn_val, setEn_own, isNEn_d, isNEn_o, asB_b, onVal_v, setR_val, setR_obj, setR_slot, setRs_nil, setRs_cons, setVs_nil, setVs_cons, asgT_one, asgT_tup, extS_l, opt_s, wFs_nil, wFs_cons, wOs_nil, wOs_cons, wAs_nil, wAs_cons, wAs_bor, wBo_one, wBo_cons, wPart_nil, wPart_one, wCond_nil, wCond_one, wIt_rng1, wIt_rng2, wIt_seq, onInt_i, onSeq_l, onSeq_t, onTup_t, wSs_nil, wSs_cons, wS_set, wS_setT, wS_par, wS_setI, wS_aug, augEn_val, augEn_own, wS_augI, wS_ex, wS_ret, wS_retN, wS_ifs, wS_fo, wS_brk, wS_pas, ix_t, ix_l, ix_o, sl_t, sl_l, sl_o, o_add, o_sub, o_mul, o_fdiv, o_mod, o_pow, o_addT, o_addDD, o_addDO, o_addOD, o_addOO, neg_i, c_lt, c_le, c_gt, c_ge, c_eqI, c_neI, f_lenT, f_lenL, f_lenO, f_int, f_intB, f_abs, f_max2, f_min2, f_tupT, f_tupL, f_tupO, f_lstT, f_lstL, f_lstO, f_isB, f_isI, f_isS, f_isT, f_sumL, f_sumT, f_maxO, f_minO, f_maxT, f_minT, f_sortO, f_setO, mm_app, mm_rev, mm_pop, si_l, get_0, get_s, resEn_own, resEn_bor, resEn_val, frzEn_own, frzEn_val, retEn_own, retEn_val, objEn_own, objEn_bor, isObEn_own, isObEn_bor, isLsEn_own, isLsEn_bor, putEn_own, putEn_bor, agEn_own, agEn_bor, ag_nil, ag_one, true_and, and_true, vB, List.replicate, List.length_cons, List.length_nil, List.cons_append, List.nil_append, List.set, List.map_cons, List.map_nil, agSlots, putObs, notSlot_val, notSlot_obj, List.all_cons, List.all_nil, Bool.and_self, Bool.and_true, outsFrom, obOf_bor, obOf_own, wipeE, back, isBd, isId, isSd, isTd, noneB, g0, g1, g2, g3, g4, g5, g6, g7, g8, g9, g10, g11, g13, g14, g15, g16, g17, g18, g19, g20, g21, g22, g23, intO]
    refine ⟨by simp [noObj, Ev.get], ?_⟩
    refine wComp_pure eP (fun p => some (eP (sc scale p))) ot0 _ (fun p hp kt kf h1 h2 => ?_) ?_
    · have := gbo0 p hp
      simp only [eP, bodyCt, wE_v, wE_g, wE_k, wE_op, wE_neg, wE_cmp, wE_isN, wE_ch, wE_nt, wE_bo, wE_ife, wE_tup, wE_lst, wE_dnew, wE_ix, wE_sl, wE_call, wE_bf, wE_mut, wE_comp, onEn_val, onEn_own, onEn_bor, res_val, res_obj, res_slot, frz_val, frz_obj, frz_slot, retR_val, retR_obj, retR_slot, objAt_w, isObj_w, isLst_w, putOb_w, agEn_d, agEn_s, setV_w, setEn_no, setEn_val, setEn_own, isNEn_d, isNEn_o, asB_b, onVal_v, setR_val, setR_obj, setR_slot, setRs_nil, setRs_cons, setVs_nil, setVs_cons, asgT_one, asgT_tup, extS_l, opt_s, wFs_nil, wFs_cons, wOs_nil, wOs_cons, wAs_nil, wAs_cons, wAs_bor, wBo_one, wBo_cons, wPart_nil, wPart_one, wCond_nil, wCond_one, wIt_rng1, wIt_rng2, wIt_seq, onInt_i, onSeq_l, onSeq_t, onTup_t, wSs_nil, wSs_cons, wS_set, wS_setT, wS_par, wS_setI, wS_aug, augEn_val, augEn_own, wS_augI, wS_ex, wS_ret, wS_retN, wS_ifs, wS_fo, wS_brk, wS_pas, ix_t, ix_l, ix_o, sl_t, sl_l, sl_o, o_add, o_sub, o_mul, o_fdiv, o_mod, o_pow, o_addT, o_addDD, o_addDO, o_addOD, o_addOO, neg_i, c_lt, c_le, c_gt, c_ge, c_eqI, c_neI, f_lenT, f_lenL, f_lenO, f_int, f_intB, f_abs, f_max2, f_min2, f_tupT, f_tupL, f_tupO, f_lstT, f_lstL, f_lstO, f_isB, f_isI, f_isS, f_isT, f_sumL, f_sumT, f_maxO, f_minO, f_maxT, f_minT, f_sortO, f_setO, mm_app, mm_rev, mm_pop, si_l, get_0, get_s, resEn_own, resEn_bor, resEn_val, frzEn_own, frzEn_val, retEn_own, retEn_val, objEn_own, objEn_bor, isObEn_own, isObEn_bor, isLsEn_own, isLsEn_bor, putEn_own, putEn_bor, agEn_own, agEn_bor, ag_nil, ag_one, true_and, and_true, vB, List.replicate, List.length_cons, List.length_nil, List.cons_append, List.nil_append, List.set, List.map_cons, List.map_nil, agSlots, putObs, notSlot_val, notSlot_obj, List.all_cons, List.all_nil, Bool.and_self, Bool.and_true, outsFrom, obOf_bor, obOf_own, wipeE, back, isBd, isId, isSd, isTd, noneB, g0, g1, g2, g3, g4, g5, g6, g7, g8, g9, g10, g11, g13, g14, g15, g16, g17, g18, g19, g20, g21, g22, g23, if_true]
      exact ⟨mul_smallL (by omega) (by omega), by decide, h1 _ _ rfl rfl⟩
    · rw [fm_some, show (ot0.map fun a => eP (sc scale a)) = (ot0.map (sc scale)).map eP by rw [List.map_map]; rfl]
      have go := good_map go0 scale
      generalize ot0.map (sc scale) = ot at go
      simp only [bodyCt, wE_v, wE_g, wE_k, wE_op, wE_neg, wE_cmp, wE_isN, wE_ch, wE_nt, wE_bo, wE_ife, wE_tup, wE_lst, wE_dnew, wE_ix, wE_sl, wE_call, wE_bf, wE_mut, wE_comp, onEn_val, onEn_own, onEn_bor, res_val, res_obj, res_slot, frz_val, frz_obj, frz_slot, retR_val, retR_obj, retR_slot, objAt_w, isObj_w, isLst_w, putOb_w, agEn_d, agEn_s, setV_w, setEn_no, setEn_val, setEn_own, isNEn_d, isNEn_o, asB_b, onVal_v, setR_val, setR_obj, setR_slot, setRs_nil, setRs_cons, setVs_nil, setVs_cons, asgT_one, asgT_tup, extS_l, opt_s, wFs_nil, wFs_cons, wOs_nil, wOs_cons, wAs_nil, wAs_cons, wAs_bor, wBo_one, wBo_cons, wPart_nil, wPart_one, wCond_nil, wCond_one, wIt_rng1, wIt_rng2, wIt_seq, onInt_i, onSeq_l, onSeq_t, onTup_t, wSs_nil, wSs_cons, wS_set, wS_setT, wS_par, wS_setI, wS_aug, augEn_val, augEn_own, wS_augI, wS_ex, wS_ret, wS_retN, wS_ifs, wS_fo, wS_brk, wS_pas, ix_t, ix_l, ix_o, sl_t, sl_l, sl_o, o_add, o_sub, o_mul, o_fdiv, o_mod, o_pow, o_addT, o_addDD, o_addDO, o_addOD, o_addOO, neg_i, c_lt, c_le, c_gt, c_ge, c_eqI, c_neI, f_lenT, f_lenL, f_lenO, f_int, f_intB, f_abs, f_max2, f_min2, f_tupT, f_tupL, f_tupO, f_lstT, f_lstL, f_lstO, f_isB, f_isI, f_isS, f_isT, f_sumL, f_sumT, f_maxO, f_minO, f_maxT, f_minT, f_sortO, f_setO, mm_app, mm_rev, mm_pop, si_l, get_0, get_s, resEn_own, resEn_bor, resEn_val, frzEn_own, frzEn_val, retEn_own, retEn_val, objEn_own, objEn_bor, isObEn_own, isObEn_bor, isLsEn_own, isLsEn_bor, putEn_own, putEn_bor, agEn_own, agEn_bor, ag_nil, ag_one, true_and, and_true, vB, List.replicate, List.length_cons, List.length_nil, List.cons_append, List.nil_append, List.set, List.map_cons, List.map_nil, agSlots, putObs, notSlot_val, notSlot_obj, List.all_cons, List.all_nil, Bool.and_self, Bool.and_true, outsFrom, obOf_bor, obOf_own, wipeE, back, isBd, isId, isSd, isTd, noneB, g0, g1, g2, g3, g4, g5, g6, g7, g8, g9, g10, g11, g13, g14, g15, g16, g17, g18, g19, g20, g21, g22, g23, intO]
      refine ⟨l4, 50, rfl, by decide, fun w1 l5 a0 a1 => ⟨rfl, ?_⟩⟩
      simp only [bodyCt, wE_v, wE_g, wE_k, wE_op, wE_neg, wE_cmp, wE_isN, wE_ch, wE_nt, wE_bo, wE_ife, wE_tup, wE_lst, wE_dnew, wE_ix, wE_sl, wE_call, wE_bf, wE_mut, wE_comp, onEn_val, onEn_own, onEn_bor, res_val, res_obj, res_slot, frz_val, frz_obj, frz_slot, retR_val, retR_obj, retR_slot, objAt_w, isObj_w, isLst_w, putOb_w, agEn_d, agEn_s, setV_w, setEn_no, setEn_val, setEn_own, isNEn_d, isNEn_o, asB_b, onVal_v, setR_val, setR_obj, setR_slot, setRs_nil, setRs_cons, setVs_nil, setVs_cons, asgT_one, asgT_tup, extS_l, opt_s, wFs_nil, wFs_cons, wOs_nil, wOs_cons, wAs_nil, wAs_cons, wAs_bor, wBo_one, wBo_cons, wPart_nil, wPart_one, wCond_nil, wCond_one, wIt_rng1, wIt_rng2, wIt_seq, onInt_i, onSeq_l, onSeq_t, onTup_t, wSs_nil, wSs_cons, wS_set, wS_setT, wS_par, wS_setI, wS_aug, augEn_val, augEn_own, wS_augI, wS_ex, wS_ret, wS_retN, wS_ifs, wS_fo, wS_brk, wS_pas, ix_t, ix_l, ix_o, sl_t, sl_l, sl_o, o_add, o_sub, o_mul, o_fdiv, o_mod, o_pow, o_addT, o_addDD, o_addDO, o_addOD, o_addOO, neg_i, c_lt, c_le, c_gt, c_ge, c_eqI, c_neI, f_lenT, f_lenL, f_lenO, f_int, f_intB, f_abs, f_max2, f_min2, f_tupT, f_tupL, f_tupO, f_lstT, f_lstL, f_lstO, f_isB, f_isI, f_isS, f_isT, f_sumL, f_sumT, f_maxO, f_minO, f_maxT, f_minT, f_sortO, f_setO, mm_app, mm_rev, mm_pop, si_l, get_0, get_s, resEn_own, resEn_bor, resEn_val, frzEn_own, frzEn_val, retEn_own, retEn_val, objEn_own, objEn_bor, isObEn_own, isObEn_bor, isLsEn_own, isLsEn_bor, putEn_own, putEn_bor, agEn_own, agEn_bor, ag_nil, ag_one, true_and, and_true, vB, List.replicate, List.length_cons, List.length_nil, List.cons_append, List.nil_append, List.set, List.map_cons, List.map_nil, agSlots, putObs, notSlot_val, notSlot_obj, List.all_cons, List.all_nil, Bool.and_self, Bool.and_true, outsFrom, obOf_bor, obOf_own, wipeE, back, isBd, isId, isSd, isTd, noneB, g0, g1, g2, g3, g4, g5, g6, g7, g8, g9, g10, g11, g13, g14, g15, g16, g17, g18, g19, g20, g21, g22, g23, intO]
      refine ⟨mul_smallL (by omega) (by omega), l5, 2, rfl, by decide, fun w2 l6 b0 b1 => ⟨rfl, ?_⟩⟩
      simp only [bodyCt, wE_v, wE_g, wE_k, wE_op, wE_neg, wE_cmp, wE_isN, wE_ch, wE_nt, wE_bo, wE_ife, wE_tup, wE_lst, wE_dnew, wE_ix, wE_sl, wE_call, wE_bf, wE_mut, wE_comp, onEn_val, onEn_own, onEn_bor, res_val, res_obj, res_slot, frz_val, frz_obj, frz_slot, retR_val, retR_obj, retR_slot, objAt_w, isObj_w, isLst_w, putOb_w, agEn_d, agEn_s, setV_w, setEn_no, setEn_val, setEn_own, isNEn_d, isNEn_o, asB_b, onVal_v, setR_val, setR_obj, setR_slot, setRs_nil, setRs_cons, setVs_nil, setVs_cons, asgT_one, asgT_tup, extS_l, opt_s, wFs_nil, wFs_cons, wOs_nil, wOs_cons, wAs_nil, wAs_cons, wAs_bor, wBo_one, wBo_cons, wPart_nil, wPart_one, wCond_nil, wCond_one, wIt_rng1, wIt_rng2, wIt_seq, onInt_i, onSeq_l, onSeq_t, onTup_t, wSs_nil, wSs_cons, wS_set, wS_setT, wS_par, wS_setI, wS_aug, augEn_val, augEn_own, wS_augI, wS_ex, wS_ret, wS_retN, wS_ifs, wS_fo, wS_brk, wS_pas, ix_t, ix_l, ix_o, sl_t, sl_l, sl_o, o_add, o_sub, o_mul, o_fdiv, o_mod, o_pow, o_addT, o_addDD, o_addDO, o_addOD, o_addOO, neg_i, c_lt, c_le, c_gt, c_ge, c_eqI, c_neI, f_lenT, f_lenL, f_lenO, f_int, f_intB, f_abs, f_max2, f_min2, f_tupT, f_tupL, f_tupO, f_lstT, f_lstL, f_lstO, f_isB, f_isI, f_isS, f_isT, f_sumL, f_sumT, f_maxO, f_minO, f_maxT, f_minT, f_sortO, f_setO, mm_app, mm_rev, mm_pop, si_l, get_0, get_s, resEn_own, resEn_bor, resEn_val, frzEn_own, frzEn_val, retEn_own, retEn_val, objEn_own, objEn_bor, isObEn_own, isObEn_bor, isLsEn_own, isLsEn_bor, putEn_own, putEn_bor, agEn_own, agEn_bor, ag_nil, ag_one, true_and, and_true, vB, List.replicate, List.length_cons, List.length_nil, List.cons_append, List.nil_append, List.set, List.map_cons, List.map_nil, agSlots, putObs, notSlot_val, notSlot_obj, List.all_cons, List.all_nil, Bool.and_self, Bool.and_true, outsFrom, obOf_bor, obOf_own, wipeE, back, isBd, isId, isSd, isTd, noneB, g0, g1, g2, g3, g4, g5, g6, g7, g8, g9, g10, g11, g13, g14, g15, g16, g17, g18, g19, g20, g21, g22, g23, intO]
      generalize w1 * scale + w2 = w
      refine ⟨l6, st, w, rfl, gs, fun l7 => ⟨rfl, ?_⟩⟩
      simp only [bodyCt, wE_v, wE_g, wE_k, wE_op, wE_neg, wE_cmp, wE_isN, wE_ch, wE_nt, wE_bo, wE_ife, wE_tup, wE_lst, wE_dnew, wE_ix, wE_sl, wE_call, wE_bf, wE_mut, wE_comp, onEn_val, onEn_own, onEn_bor, res_val, res_obj, res_slot, frz_val, frz_obj, frz_slot, retR_val, retR_obj, retR_slot, objAt_w, isObj_w, isLst_w, putOb_w, agEn_d, agEn_s, setV_w, setEn_no, setEn_val, setEn_own, isNEn_d, isNEn_o, asB_b, onVal_v, setR_val, setR_obj, setR_slot, setRs_nil, setRs_cons, setVs_nil, setVs_cons, asgT_one, asgT_tup, extS_l, opt_s, wFs_nil, wFs_cons, wOs_nil, wOs_cons, wAs_nil, wAs_cons, wAs_bor, wBo_one, wBo_cons, wPart_nil, wPart_one, wCond_nil, wCond_one, wIt_rng1, wIt_rng2, wIt_seq, onInt_i, onSeq_l, onSeq_t, onTup_t, wSs_nil, wSs_cons, wS_set, wS_setT, wS_par, wS_setI, wS_aug, augEn_val, augEn_own, wS_augI, wS_ex, wS_ret, wS_retN, wS_ifs, wS_fo, wS_brk, wS_pas, ix_t, ix_l, ix_o, sl_t, sl_l, sl_o, o_add, o_sub, o_mul, o_fdiv, o_mod, o_pow, o_addT, o_addDD, o_addDO, o_addOD, o_addOO, neg_i, c_lt, c_le, c_gt, c_ge, c_eqI, c_neI, f_lenT, f_lenL, f_lenO, f_int, f_intB, f_abs, f_max2, f_min2, f_tupT, f_tupL, f_tupO, f_lstT, f_lstL, f_lstO, f_isB, f_isI, f_isS, f_isT, f_sumL, f_sumT, f_maxO, f_minO, f_maxT, f_minT, f_sortO, f_setO, mm_app, mm_rev, mm_pop, si_l, get_0, get_s, resEn_own, resEn_bor, resEn_val, frzEn_own, frzEn_val, retEn_own, retEn_val, objEn_own, objEn_bor, isObEn_own, isObEn_bor, isLsEn_own, isLsEn_bor, putEn_own, putEn_bor, agEn_own, agEn_bor, ag_nil, ag_one, true_and, and_true, vB, List.replicate, List.length_cons, List.length_nil, List.cons_append, List.nil_append, List.set, List.map_cons, List.map_nil, agSlots, putObs, notSlot_val, notSlot_obj, List.all_cons, List.all_nil, Bool.and_self, Bool.and_true, outsFrom, obOf_bor, obOf_own, wipeE, back, isBd, isId, isSd, isTd, noneB, g0, g1, g2, g3, g4, g5, g6, g7, g8, g9, g10, g11, g13, g14, g15, g16, g17, g18, g19, g20, g21, g22, g23, intO, Bool.not_true, Bool.false_eq_true, if_false]
      have ls := gs.2.2
      have lo := go.2.2
      refine ⟨by rw [List.length_map, List.length_map]; omega, by simp [noObj, Ev.get], ?_⟩
      rw [← List.map_append]
      refine wComp_pure eP (fun p => some (.int p.1)) (st ++ ot) _ (fun p hp kt kf h1 h2 => ?_) ?_
      · simp only [eP, bodyCt, wE_v, wE_g, wE_k, wE_op, wE_neg, wE_cmp, wE_isN, wE_ch, wE_nt, wE_bo, wE_ife, wE_tup, wE_lst, wE_dnew, wE_ix, wE_sl, wE_call, wE_bf, wE_mut, wE_comp, onEn_val, onEn_own, onEn_bor, res_val, res_obj, res_slot, frz_val, frz_obj, frz_slot, retR_val, retR_obj, retR_slot, objAt_w, isObj_w, isLst_w, putOb_w, agEn_d, agEn_s, setV_w, setEn_no, setEn_val, setEn_own, isNEn_d, isNEn_o, asB_b, onVal_v, setR_val, setR_obj, setR_slot, setRs_nil, setRs_cons, setVs_nil, setVs_cons, asgT_one, asgT_tup, extS_l, opt_s, wFs_nil, wFs_cons, wOs_nil, wOs_cons, wAs_nil, wAs_cons, wAs_bor, wBo_one, wBo_cons, wPart_nil, wPart_one, wCond_nil, wCond_one, wIt_rng1, wIt_rng2, wIt_seq, onInt_i, onSeq_l, onSeq_t, onTup_t, wSs_nil, wSs_cons, wS_set, wS_setT, wS_par, wS_setI, wS_aug, augEn_val, augEn_own, wS_augI, wS_ex, wS_ret, wS_retN, wS_ifs, wS_fo, wS_brk, wS_pas, ix_t, ix_l, ix_o, sl_t, sl_l, sl_o, o_add, o_sub, o_mul, o_fdiv, o_mod, o_pow, o_addT, o_addDD, o_addDO, o_addOD, o_addOO, neg_i, c_lt, c_le, c_gt, c_ge, c_eqI, c_neI, f_lenT, f_lenL, f_lenO, f_int, f_intB, f_abs, f_max2, f_min2, f_tupT, f_tupL, f_tupO, f_lstT, f_lstL, f_lstO, f_isB, f_isI, f_isS, f_isT, f_sumL, f_sumT, f_maxO, f_minO, f_maxT, f_minT, f_sortO, f_setO, mm_app, mm_rev, mm_pop, si_l, get_0, get_s, resEn_own, resEn_bor, resEn_val, frzEn_own, frzEn_val, retEn_own, retEn_val, objEn_own, objEn_bor, isObEn_own, isObEn_bor, isLsEn_own, isLsEn_bor, putEn_own, putEn_bor, agEn_own, agEn_bor, ag_nil, ag_one, true_and, and_true, vB, List.replicate, List.length_cons, List.length_nil, List.cons_append, List.nil_append, List.set, List.map_cons, List.map_nil, agSlots, putObs, notSlot_val, notSlot_obj, List.all_cons, List.all_nil, Bool.and_self, Bool.and_true, outsFrom, obOf_bor, obOf_own, wipeE, back, isBd, isId, isSd, isTd, noneB, g0, g1, g2, g3, g4, g5, g6, g7, g8, g9, g10, g11, g13, g14, g15, g16, g17, g18, g19, g20, g21, g22, g23, at0, if_true]
        exact h1 _ _ rfl rfl
      rw [fm_some, show ((st ++ ot).map fun p => PyData.int p.1) = ((st ++ ot).map (·.1)).map PyData.int by rw [List.map_map]; rfl]
      simp only [f_setO]
      have lL : ((st ++ ot).map (·.1)).length ≤ 16 := by rw [List.length_map, List.length_append]; omega
      have lU := setU_len ((st ++ ot).map (·.1))
      simp only [bodyCt, wE_v, wE_g, wE_k, wE_op, wE_neg, wE_cmp, wE_isN, wE_ch, wE_nt, wE_bo, wE_ife, wE_tup, wE_lst, wE_dnew, wE_ix, wE_sl, wE_call, wE_bf, wE_mut, wE_comp, onEn_val, onEn_own, onEn_bor, res_val, res_obj, res_slot, frz_val, frz_obj, frz_slot, retR_val, retR_obj, retR_slot, objAt_w, isObj_w, isLst_w, putOb_w, agEn_d, agEn_s, setV_w, setEn_no, setEn_val, setEn_own, isNEn_d, isNEn_o, asB_b, onVal_v, setR_val, setR_obj, setR_slot, setRs_nil, setRs_cons, setVs_nil, setVs_cons, asgT_one, asgT_tup, extS_l, opt_s, wFs_nil, wFs_cons, wOs_nil, wOs_cons, wAs_nil, wAs_cons, wAs_bor, wBo_one, wBo_cons, wPart_nil, wPart_one, wCond_nil, wCond_one, wIt_rng1, wIt_rng2, wIt_seq, onInt_i, onSeq_l, onSeq_t, onTup_t, wSs_nil, wSs_cons, wS_set, wS_setT, wS_par, wS_setI, wS_aug, augEn_val, augEn_own, wS_augI, wS_ex, wS_ret, wS_retN, wS_ifs, wS_fo, wS_brk, wS_pas, ix_t, ix_l, ix_o, sl_t, sl_l, sl_o, o_add, o_sub, o_mul, o_fdiv, o_mod, o_pow, o_addT, o_addDD, o_addDO, o_addOD, o_addOO, neg_i, c_lt, c_le, c_gt, c_ge, c_eqI, c_neI, f_lenT, f_lenL, f_lenO, f_int, f_intB, f_abs, f_max2, f_min2, f_tupT, f_tupL, f_tupO, f_lstT, f_lstL, f_lstO, f_isB, f_isI, f_isS, f_isT, f_sumL, f_sumT, f_maxO, f_minO, f_maxT, f_minT, f_sortO, f_setO, mm_app, mm_rev, mm_pop, si_l, get_0, get_s, resEn_own, resEn_bor, resEn_val, frzEn_own, frzEn_val, retEn_own, retEn_val, objEn_own, objEn_bor, isObEn_own, isObEn_bor, isLsEn_own, isLsEn_bor, putEn_own, putEn_bor, agEn_own, agEn_bor, ag_nil, ag_one, true_and, and_true, vB, List.replicate, List.length_cons, List.length_nil, List.cons_append, List.nil_append, List.set, List.map_cons, List.map_nil, agSlots, putObs, notSlot_val, notSlot_obj, List.all_cons, List.all_nil, Bool.and_self, Bool.and_true, outsFrom, obOf_bor, obOf_own, wipeE, back, isBd, isId, isSd, isTd, noneB, g0, g1, g2, g3, g4, g5, g6, g7, g8, g9, g10, g11, g13, g14, g15, g16, g17, g18, g19, g20, g21, g22, g23]
      refine ⟨by omega, by simp [noObj, Ev.get], ?_⟩
      refine wComp_pure PyData.int (fun r => ((if w ≤ bearsAt st r + bearsAt ot r then some r else none : Option Int)).map PyData.int) (setU ((st ++ ot).map (·.1))) _ (fun r _ kt kf h1 h2 => ?_) ?_
      · simp only [bodyCt, wE_v, wE_g, wE_k, wE_op, wE_neg, wE_cmp, wE_isN, wE_ch, wE_nt, wE_bo, wE_ife, wE_tup, wE_lst, wE_dnew, wE_ix, wE_sl, wE_call, wE_bf, wE_mut, wE_comp, onEn_val, onEn_own, onEn_bor, res_val, res_obj, res_slot, frz_val, frz_obj, frz_slot, retR_val, retR_obj, retR_slot, objAt_w, isObj_w, isLst_w, putOb_w, agEn_d, agEn_s, setV_w, setEn_no, setEn_val, setEn_own, isNEn_d, isNEn_o, asB_b, onVal_v, setR_val, setR_obj, setR_slot, setRs_nil, setRs_cons, setVs_nil, setVs_cons, asgT_one, asgT_tup, extS_l, opt_s, wFs_nil, wFs_cons, wOs_nil, wOs_cons, wAs_nil, wAs_cons, wAs_bor, wBo_one, wBo_cons, wPart_nil, wPart_one, wCond_nil, wCond_one, wIt_rng1, wIt_rng2, wIt_seq, onInt_i, onSeq_l, onSeq_t, onTup_t, wSs_nil, wSs_cons, wS_set, wS_setT, wS_par, wS_setI, wS_aug, augEn_val, augEn_own, wS_augI, wS_ex, wS_ret, wS_retN, wS_ifs, wS_fo, wS_brk, wS_pas, ix_t, ix_l, ix_o, sl_t, sl_l, sl_o, o_add, o_sub, o_mul, o_fdiv, o_mod, o_pow, o_addT, o_addDD, o_addDO, o_addOD, o_addOO, neg_i, c_lt, c_le, c_gt, c_ge, c_eqI, c_neI, f_lenT, f_lenL, f_lenO, f_int, f_intB, f_abs, f_max2, f_min2, f_tupT, f_tupL, f_tupO, f_lstT, f_lstL, f_lstO, f_isB, f_isI, f_isS, f_isT, f_sumL, f_sumT, f_maxO, f_minO, f_maxT, f_minT, f_sortO, f_setO, mm_app, mm_rev, mm_pop, si_l, get_0, get_s, resEn_own, resEn_bor, resEn_val, frzEn_own, frzEn_val, retEn_own, retEn_val, objEn_own, objEn_bor, isObEn_own, isObEn_bor, isLsEn_own, isLsEn_bor, putEn_own, putEn_bor, agEn_own, agEn_bor, ag_nil, ag_one, true_and, and_true, vB, List.replicate, List.length_cons, List.length_nil, List.cons_append, List.nil_append, List.set, List.map_cons, List.map_nil, agSlots, putObs, notSlot_val, notSlot_obj, List.all_cons, List.all_nil, Bool.and_self, Bool.and_true, outsFrom, obOf_bor, obOf_own, wipeE, back, isBd, isId, isSd, isTd, noneB, g0, g1, g2, g3, g4, g5, g6, g7, g8, g9, g10, g11, g13, g14, g15, g16, g17, g18, g19, g20, g21, g22, g23]
        refine ⟨st, r, rfl, gs, rfl, ?_⟩
        simp only [bodyCt, wE_v, wE_g, wE_k, wE_op, wE_neg, wE_cmp, wE_isN, wE_ch, wE_nt, wE_bo, wE_ife, wE_tup, wE_lst, wE_dnew, wE_ix, wE_sl, wE_call, wE_bf, wE_mut, wE_comp, onEn_val, onEn_own, onEn_bor, res_val, res_obj, res_slot, frz_val, frz_obj, frz_slot, retR_val, retR_obj, retR_slot, objAt_w, isObj_w, isLst_w, putOb_w, agEn_d, agEn_s, setV_w, setEn_no, setEn_val, setEn_own, isNEn_d, isNEn_o, asB_b, onVal_v, setR_val, setR_obj, setR_slot, setRs_nil, setRs_cons, setVs_nil, setVs_cons, asgT_one, asgT_tup, extS_l, opt_s, wFs_nil, wFs_cons, wOs_nil, wOs_cons, wAs_nil, wAs_cons, wAs_bor, wBo_one, wBo_cons, wPart_nil, wPart_one, wCond_nil, wCond_one, wIt_rng1, wIt_rng2, wIt_seq, onInt_i, onSeq_l, onSeq_t, onTup_t, wSs_nil, wSs_cons, wS_set, wS_setT, wS_par, wS_setI, wS_aug, augEn_val, augEn_own, wS_augI, wS_ex, wS_ret, wS_retN, wS_ifs, wS_fo, wS_brk, wS_pas, ix_t, ix_l, ix_o, sl_t, sl_l, sl_o, o_add, o_sub, o_mul, o_fdiv, o_mod, o_pow, o_addT, o_addDD, o_addDO, o_addOD, o_addOO, neg_i, c_lt, c_le, c_gt, c_ge, c_eqI, c_neI, f_lenT, f_lenL, f_lenO, f_int, f_intB, f_abs, f_max2, f_min2, f_tupT, f_tupL, f_tupO, f_lstT, f_lstL, f_lstO, f_isB, f_isI, f_isS, f_isT, f_sumL, f_sumT, f_maxO, f_minO, f_maxT, f_minT, f_sortO, f_setO, mm_app, mm_rev, mm_pop, si_l, get_0, get_s, resEn_own, resEn_bor, resEn_val, frzEn_own, frzEn_val, retEn_own, retEn_val, objEn_own, objEn_bor, isObEn_own, isObEn_bor, isLsEn_own, isLsEn_bor, putEn_own, putEn_bor, agEn_own, agEn_bor, ag_nil, ag_one, true_and, and_true, vB, List.replicate, List.length_cons, List.length_nil, List.cons_append, List.nil_append, List.set, List.map_cons, List.map_nil, agSlots, putObs, notSlot_val, notSlot_obj, List.all_cons, List.all_nil, Bool.and_self, Bool.and_true, outsFrom, obOf_bor, obOf_own, wipeE, back, isBd, isId, isSd, isTd, noneB, g0, g1, g2, g3, g4, g5, g6, g7, g8, g9, g10, g11, g13, g14, g15, g16, g17, g18, g19, g20, g21, g22, g23]
        refine ⟨ot, r, rfl, go, rfl, ?_⟩
        simp only [bodyCt, wE_v, wE_g, wE_k, wE_op, wE_neg, wE_cmp, wE_isN, wE_ch, wE_nt, wE_bo, wE_ife, wE_tup, wE_lst, wE_dnew, wE_ix, wE_sl, wE_call, wE_bf, wE_mut, wE_comp, onEn_val, onEn_own, onEn_bor, res_val, res_obj, res_slot, frz_val, frz_obj, frz_slot, retR_val, retR_obj, retR_slot, objAt_w, isObj_w, isLst_w, putOb_w, agEn_d, agEn_s, setV_w, setEn_no, setEn_val, setEn_own, isNEn_d, isNEn_o, asB_b, onVal_v, setR_val, setR_obj, setR_slot, setRs_nil, setRs_cons, setVs_nil, setVs_cons, asgT_one, asgT_tup, extS_l, opt_s, wFs_nil, wFs_cons, wOs_nil, wOs_cons, wAs_nil, wAs_cons, wAs_bor, wBo_one, wBo_cons, wPart_nil, wPart_one, wCond_nil, wCond_one, wIt_rng1, wIt_rng2, wIt_seq, onInt_i, onSeq_l, onSeq_t, onTup_t, wSs_nil, wSs_cons, wS_set, wS_setT, wS_par, wS_setI, wS_aug, augEn_val, augEn_own, wS_augI, wS_ex, wS_ret, wS_retN, wS_ifs, wS_fo, wS_brk, wS_pas, ix_t, ix_l, ix_o, sl_t, sl_l, sl_o, o_add, o_sub, o_mul, o_fdiv, o_mod, o_pow, o_addT, o_addDD, o_addDO, o_addOD, o_addOO, neg_i, c_lt, c_le, c_gt, c_ge, c_eqI, c_neI, f_lenT, f_lenL, f_lenO, f_int, f_intB, f_abs, f_max2, f_min2, f_tupT, f_tupL, f_tupO, f_lstT, f_lstL, f_lstO, f_isB, f_isI, f_isS, f_isT, f_sumL, f_sumT, f_maxO, f_minO, f_maxT, f_minT, f_sortO, f_setO, mm_app, mm_rev, mm_pop, si_l, get_0, get_s, resEn_own, resEn_bor, resEn_val, frzEn_own, frzEn_val, retEn_own, retEn_val, objEn_own, objEn_bor, isObEn_own, isObEn_bor, isLsEn_own, isLsEn_bor, putEn_own, putEn_bor, agEn_own, agEn_bor, ag_nil, ag_one, true_and, and_true, vB, List.replicate, List.length_cons, List.length_nil, List.cons_append, List.nil_append, List.set, List.map_cons, List.map_nil, agSlots, putObs, notSlot_val, notSlot_obj, List.all_cons, List.all_nil, Bool.and_self, Bool.and_true, outsFrom, obOf_bor, obOf_own, wipeE, back, isBd, isId, isSd, isTd, noneB, g0, g1, g2, g3, g4, g5, g6, g7, g8, g9, g10, g11, g13, g14, g15, g16, g17, g18, g19, g20, g21, g22, g23]
        by_cases c : w ≤ bearsAt st r + bearsAt ot r
        · simp only [c, decide_true, if_true, bodyCt, wE_v, wE_g, wE_k, wE_op, wE_neg, wE_cmp, wE_isN, wE_ch, wE_nt, wE_bo, wE_ife, wE_tup, wE_lst, wE_dnew, wE_ix, wE_sl, wE_call, wE_bf, wE_mut, wE_comp, onEn_val, onEn_own, onEn_bor, res_val, res_obj, res_slot, frz_val, frz_obj, frz_slot, retR_val, retR_obj, retR_slot, objAt_w, isObj_w, isLst_w, putOb_w, agEn_d, agEn_s, setV_w, setEn_no, setEn_val, setEn_own, isNEn_d, isNEn_o, asB_b, onVal_v, setR_val, setR_obj, setR_slot, setRs_nil, setRs_cons, setVs_nil, setVs_cons, asgT_one, asgT_tup, extS_l, opt_s, wFs_nil, wFs_cons, wOs_nil, wOs_cons, wAs_nil, wAs_cons, wAs_bor, wBo_one, wBo_cons, wPart_nil, wPart_one, wCond_nil, wCond_one, wIt_rng1, wIt_rng2, wIt_seq, onInt_i, onSeq_l, onSeq_t, onTup_t, wSs_nil, wSs_cons, wS_set, wS_setT, wS_par, wS_setI, wS_aug, augEn_val, augEn_own, wS_augI, wS_ex, wS_ret, wS_retN, wS_ifs, wS_fo, wS_brk, wS_pas, ix_t, ix_l, ix_o, sl_t, sl_l, sl_o, o_add, o_sub, o_mul, o_fdiv, o_mod, o_pow, o_addT, o_addDD, o_addDO, o_addOD, o_addOO, neg_i, c_lt, c_le, c_gt, c_ge, c_eqI, c_neI, f_lenT, f_lenL, f_lenO, f_int, f_intB, f_abs, f_max2, f_min2, f_tupT, f_tupL, f_tupO, f_lstT, f_lstL, f_lstO, f_isB, f_isI, f_isS, f_isT, f_sumL, f_sumT, f_maxO, f_minO, f_maxT, f_minT, f_sortO, f_setO, mm_app, mm_rev, mm_pop, si_l, get_0, get_s, resEn_own, resEn_bor, resEn_val, frzEn_own, frzEn_val, retEn_own, retEn_val, objEn_own, objEn_bor, isObEn_own, isObEn_bor, isLsEn_own, isLsEn_bor, putEn_own, putEn_bor, agEn_own, agEn_bor, ag_nil, ag_one, true_and, and_true, vB, List.replicate, List.length_cons, List.length_nil, List.cons_append, List.nil_append, List.set, List.map_cons, List.map_nil, agSlots, putObs, notSlot_val, notSlot_obj, List.all_cons, List.all_nil, Bool.and_self, Bool.and_true, outsFrom, obOf_bor, obOf_own, wipeE, back, isBd, isId, isSd, isTd, noneB]
          exact h1 _ _ (by simp [c]) rfl
        · simp only [c, decide_false, if_false, Bool.false_eq_true]
          exact h2 _ (by simp [c]) rfl
      rw [fm_int, show ((setU ((st ++ ot).map (·.1))).filterMap fun r => if w ≤ bearsAt st r + bearsAt ot r then some r else none) = bothL st ot w from rfl]
      have lB : (bothL st ot w).length ≤ 16 := by
        have := List.length_filterMap_le (fun r : Int => if w ≤ bearsAt st r + bearsAt ot r then some r else none) (setU ((st ++ ot).map (·.1)))
        unfold bothL
        omega
      simp only [bodyCt, wE_v, wE_g, wE_k, wE_op, wE_neg, wE_cmp, wE_isN, wE_ch, wE_nt, wE_bo, wE_ife, wE_tup, wE_lst, wE_dnew, wE_ix, wE_sl, wE_call, wE_bf, wE_mut, wE_comp, onEn_val, onEn_own, onEn_bor, res_val, res_obj, res_slot, frz_val, frz_obj, frz_slot, retR_val, retR_obj, retR_slot, objAt_w, isObj_w, isLst_w, putOb_w, agEn_d, agEn_s, setV_w, setEn_no, setEn_val, setEn_own, isNEn_d, isNEn_o, asB_b, onVal_v, setR_val, setR_obj, setR_slot, setRs_nil, setRs_cons, setVs_nil, setVs_cons, asgT_one, asgT_tup, extS_l, opt_s, wFs_nil, wFs_cons, wOs_nil, wOs_cons, wAs_nil, wAs_cons, wAs_bor, wBo_one, wBo_cons, wPart_nil, wPart_one, wCond_nil, wCond_one, wIt_rng1, wIt_rng2, wIt_seq, onInt_i, onSeq_l, onSeq_t, onTup_t, wSs_nil, wSs_cons, wS_set, wS_setT, wS_par, wS_setI, wS_aug, augEn_val, augEn_own, wS_augI, wS_ex, wS_ret, wS_retN, wS_ifs, wS_fo, wS_brk, wS_pas, ix_t, ix_l, ix_o, sl_t, sl_l, sl_o, o_add, o_sub, o_mul, o_fdiv, o_mod, o_pow, o_addT, o_addDD, o_addDO, o_addOD, o_addOO, neg_i, c_lt, c_le, c_gt, c_ge, c_eqI, c_neI, f_lenT, f_lenL, f_lenO, f_int, f_intB, f_abs, f_max2, f_min2, f_tupT, f_tupL, f_tupO, f_lstT, f_lstL, f_lstO, f_isB, f_isI, f_isS, f_isT, f_sumL, f_sumT, f_maxO, f_minO, f_maxT, f_minT, f_sortO, f_setO, mm_app, mm_rev, mm_pop, si_l, get_0, get_s, resEn_own, resEn_bor, resEn_val, frzEn_own, frzEn_val, retEn_own, retEn_val, objEn_own, objEn_bor, isObEn_own, isObEn_bor, isLsEn_own, isLsEn_bor, putEn_own, putEn_bor, agEn_own, agEn_bor, ag_nil, ag_one, true_and, and_true, vB, List.replicate, List.length_cons, List.length_nil, List.cons_append, List.nil_append, List.set, List.map_cons, List.map_nil, agSlots, putObs, notSlot_val, notSlot_obj, List.all_cons, List.all_nil, Bool.and_self, Bool.and_true, outsFrom, obOf_bor, obOf_own, wipeE, back, isBd, isId, isSd, isTd, noneB, g0, g1, g2, g3, g4, g5, g6, g7, g8, g9, g10, g11, g13, g14, g15, g16, g17, g18, g19, g20, g21, g22, g23]
      refine ⟨st, ot, w, rfl, ⟨gs, go⟩, rfl, ?_⟩
      rw [two_both]
      simp only [bodyCt, wE_v, wE_g, wE_k, wE_op, wE_neg, wE_cmp, wE_isN, wE_ch, wE_nt, wE_bo, wE_ife, wE_tup, wE_lst, wE_dnew, wE_ix, wE_sl, wE_call, wE_bf, wE_mut, wE_comp, onEn_val, onEn_own, onEn_bor, res_val, res_obj, res_slot, frz_val, frz_obj, frz_slot, retR_val, retR_obj, retR_slot, objAt_w, isObj_w, isLst_w, putOb_w, agEn_d, agEn_s, setV_w, setEn_no, setEn_val, setEn_own, isNEn_d, isNEn_o, asB_b, onVal_v, setR_val, setR_obj, setR_slot, setRs_nil, setRs_cons, setVs_nil, setVs_cons, asgT_one, asgT_tup, extS_l, opt_s, wFs_nil, wFs_cons, wOs_nil, wOs_cons, wAs_nil, wAs_cons, wAs_bor, wBo_one, wBo_cons, wPart_nil, wPart_one, wCond_nil, wCond_one, wIt_rng1, wIt_rng2, wIt_seq, onInt_i, onSeq_l, onSeq_t, onTup_t, wSs_nil, wSs_cons, wS_set, wS_setT, wS_par, wS_setI, wS_aug, augEn_val, augEn_own, wS_augI, wS_ex, wS_ret, wS_retN, wS_ifs, wS_fo, wS_brk, wS_pas, ix_t, ix_l, ix_o, sl_t, sl_l, sl_o, o_add, o_sub, o_mul, o_fdiv, o_mod, o_pow, o_addT, o_addDD, o_addDO, o_addOD, o_addOO, neg_i, c_lt, c_le, c_gt, c_ge, c_eqI, c_neI, f_lenT, f_lenL, f_lenO, f_int, f_intB, f_abs, f_max2, f_min2, f_tupT, f_tupL, f_tupO, f_lstT, f_lstL, f_lstO, f_isB, f_isI, f_isS, f_isT, f_sumL, f_sumT, f_maxO, f_minO, f_maxT, f_minT, f_sortO, f_setO, mm_app, mm_rev, mm_pop, si_l, get_0, get_s, resEn_own, resEn_bor, resEn_val, frzEn_own, frzEn_val, retEn_own, retEn_val, objEn_own, objEn_bor, isObEn_own, isObEn_bor, isLsEn_own, isLsEn_bor, putEn_own, putEn_bor, agEn_own, agEn_bor, ag_nil, ag_one, true_and, and_true, vB, List.replicate, List.length_cons, List.length_nil, List.cons_append, List.nil_append, List.set, List.map_cons, List.map_nil, agSlots, putObs, notSlot_val, notSlot_obj, List.all_cons, List.all_nil, Bool.and_self, Bool.and_true, outsFrom, obOf_bor, obOf_own, wipeE, back, isBd, isId, isSd, isTd, noneB, g0, g1, g2, g3, g4, g5, g6, g7, g8, g9, g10, g11, g13, g14, g15, g16, g17, g18, g19, g20, g21, g22, g23, List.length_map, last_max (both_sorted st ot w)]
      refine ⟨by decide, by omega, _, rfl, shp_eO _ _, rfl, ?_⟩
      simp only [bodyCt, wE_v, wE_g, wE_k, wE_op, wE_neg, wE_cmp, wE_isN, wE_ch, wE_nt, wE_bo, wE_ife, wE_tup, wE_lst, wE_dnew, wE_ix, wE_sl, wE_call, wE_bf, wE_mut, wE_comp, onEn_val, onEn_own, onEn_bor, res_val, res_obj, res_slot, frz_val, frz_obj, frz_slot, retR_val, retR_obj, retR_slot, objAt_w, isObj_w, isLst_w, putOb_w, agEn_d, agEn_s, setV_w, setEn_no, setEn_val, setEn_own, isNEn_d, isNEn_o, asB_b, onVal_v, setR_val, setR_obj, setR_slot, setRs_nil, setRs_cons, setVs_nil, setVs_cons, asgT_one, asgT_tup, extS_l, opt_s, wFs_nil, wFs_cons, wOs_nil, wOs_cons, wAs_nil, wAs_cons, wAs_bor, wBo_one, wBo_cons, wPart_nil, wPart_one, wCond_nil, wCond_one, wIt_rng1, wIt_rng2, wIt_seq, onInt_i, onSeq_l, onSeq_t, onTup_t, wSs_nil, wSs_cons, wS_set, wS_setT, wS_par, wS_setI, wS_aug, augEn_val, augEn_own, wS_augI, wS_ex, wS_ret, wS_retN, wS_ifs, wS_fo, wS_brk, wS_pas, ix_t, ix_l, ix_o, sl_t, sl_l, sl_o, o_add, o_sub, o_mul, o_fdiv, o_mod, o_pow, o_addT, o_addDD, o_addDO, o_addOD, o_addOO, neg_i, c_lt, c_le, c_gt, c_ge, c_eqI, c_neI, f_lenT, f_lenL, f_lenO, f_int, f_intB, f_abs, f_max2, f_min2, f_tupT, f_tupL, f_tupO, f_lstT, f_lstL, f_lstO, f_isB, f_isI, f_isS, f_isT, f_sumL, f_sumT, f_maxO, f_minO, f_maxT, f_minT, f_sortO, f_setO, mm_app, mm_rev, mm_pop, si_l, get_0, get_s, resEn_own, resEn_bor, resEn_val, frzEn_own, frzEn_val, retEn_own, retEn_val, objEn_own, objEn_bor, isObEn_own, isObEn_bor, isLsEn_own, isLsEn_bor, putEn_own, putEn_bor, agEn_own, agEn_bor, ag_nil, ag_one, true_and, and_true, vB, List.replicate, List.length_cons, List.length_nil, List.cons_append, List.nil_append, List.set, List.map_cons, List.map_nil, agSlots, putObs, notSlot_val, notSlot_obj, List.all_cons, List.all_nil, Bool.and_self, Bool.and_true, outsFrom, obOf_bor, obOf_own, wipeE, back, isBd, isId, isSd, isTd, noneB, g0, g1, g2, g3, g4, g5, g6, g7, g8, g9, g10, g11, g13, g14, g15, g16, g17, g18, g19, g20, g21, g22, g23, Bool.not_true, if_true]
      refine ⟨ot, st, w, rfl, ⟨go, gs⟩, rfl, ?_⟩
      rw [two_both']
      simp only [bodyCt, wE_v, wE_g, wE_k, wE_op, wE_neg, wE_cmp, wE_isN, wE_ch, wE_nt, wE_bo, wE_ife, wE_tup, wE_lst, wE_dnew, wE_ix, wE_sl, wE_call, wE_bf, wE_mut, wE_comp, onEn_val, onEn_own, onEn_bor, res_val, res_obj, res_slot, frz_val, frz_obj, frz_slot, retR_val, retR_obj, retR_slot, objAt_w, isObj_w, isLst_w, putOb_w, agEn_d, agEn_s, setV_w, setEn_no, setEn_val, setEn_own, isNEn_d, isNEn_o, asB_b, onVal_v, setR_val, setR_obj, setR_slot, setRs_nil, setRs_cons, setVs_nil, setVs_cons, asgT_one, asgT_tup, extS_l, opt_s, wFs_nil, wFs_cons, wOs_nil, wOs_cons, wAs_nil, wAs_cons, wAs_bor, wBo_one, wBo_cons, wPart_nil, wPart_one, wCond_nil, wCond_one, wIt_rng1, wIt_rng2, wIt_seq, onInt_i, onSeq_l, onSeq_t, onTup_t, wSs_nil, wSs_cons, wS_set, wS_setT, wS_par, wS_setI, wS_aug, augEn_val, augEn_own, wS_augI, wS_ex, wS_ret, wS_retN, wS_ifs, wS_fo, wS_brk, wS_pas, ix_t, ix_l, ix_o, sl_t, sl_l, sl_o, o_add, o_sub, o_mul, o_fdiv, o_mod, o_pow, o_addT, o_addDD, o_addDO, o_addOD, o_addOO, neg_i, c_lt, c_le, c_gt, c_ge, c_eqI, c_neI, f_lenT, f_lenL, f_lenO, f_int, f_intB, f_abs, f_max2, f_min2, f_tupT, f_tupL, f_tupO, f_lstT, f_lstL, f_lstO, f_isB, f_isI, f_isS, f_isT, f_sumL, f_sumT, f_maxO, f_minO, f_maxT, f_minT, f_sortO, f_setO, mm_app, mm_rev, mm_pop, si_l, get_0, get_s, resEn_own, resEn_bor, resEn_val, frzEn_own, frzEn_val, retEn_own, retEn_val, objEn_own, objEn_bor, isObEn_own, isObEn_bor, isLsEn_own, isLsEn_bor, putEn_own, putEn_bor, agEn_own, agEn_bor, ag_nil, ag_one, true_and, and_true, vB, List.replicate, List.length_cons, List.length_nil, List.cons_append, List.nil_append, List.set, List.map_cons, List.map_nil, agSlots, putObs, notSlot_val, notSlot_obj, List.all_cons, List.all_nil, Bool.and_self, Bool.and_true, outsFrom, obOf_bor, obOf_own, wipeE, back, isBd, isId, isSd, isTd, noneB, g0, g1, g2, g3, g4, g5, g6, g7, g8, g9, g10, g11, g13, g14, g15, g16, g17, g18, g19, g20, g21, g22, g23, List.length_map, last_max (both_sorted st ot w)]
      refine ⟨by decide, by omega, _, rfl, shp_eO _ _, rfl, ?_⟩
      simp only [bodyCt, wE_v, wE_g, wE_k, wE_op, wE_neg, wE_cmp, wE_isN, wE_ch, wE_nt, wE_bo, wE_ife, wE_tup, wE_lst, wE_dnew, wE_ix, wE_sl, wE_call, wE_bf, wE_mut, wE_comp, onEn_val, onEn_own, onEn_bor, res_val, res_obj, res_slot, frz_val, frz_obj, frz_slot, retR_val, retR_obj, retR_slot, objAt_w, isObj_w, isLst_w, putOb_w, agEn_d, agEn_s, setV_w, setEn_no, setEn_val, setEn_own, isNEn_d, isNEn_o, asB_b, onVal_v, setR_val, setR_obj, setR_slot, setRs_nil, setRs_cons, setVs_nil, setVs_cons, asgT_one, asgT_tup, extS_l, opt_s, wFs_nil, wFs_cons, wOs_nil, wOs_cons, wAs_nil, wAs_cons, wAs_bor, wBo_one, wBo_cons, wPart_nil, wPart_one, wCond_nil, wCond_one, wIt_rng1, wIt_rng2, wIt_seq, onInt_i, onSeq_l, onSeq_t, onTup_t, wSs_nil, wSs_cons, wS_set, wS_setT, wS_par, wS_setI, wS_aug, augEn_val, augEn_own, wS_augI, wS_ex, wS_ret, wS_retN, wS_ifs, wS_fo, wS_brk, wS_pas, ix_t, ix_l, ix_o, sl_t, sl_l, sl_o, o_add, o_sub, o_mul, o_fdiv, o_mod, o_pow, o_addT, o_addDD, o_addDO, o_addOD, o_addOO, neg_i, c_lt, c_le, c_gt, c_ge, c_eqI, c_neI, f_lenT, f_lenL, f_lenO, f_int, f_intB, f_abs, f_max2, f_min2, f_tupT, f_tupL, f_tupO, f_lstT, f_lstL, f_lstO, f_isB, f_isI, f_isS, f_isT, f_sumL, f_sumT, f_maxO, f_minO, f_maxT, f_minT, f_sortO, f_setO, mm_app, mm_rev, mm_pop, si_l, get_0, get_s, resEn_own, resEn_bor, resEn_val, frzEn_own, frzEn_val, retEn_own, retEn_val, objEn_own, objEn_bor, isObEn_own, isObEn_bor, isLsEn_own, isLsEn_bor, putEn_own, putEn_bor, agEn_own, agEn_bor, ag_nil, ag_one, true_and, and_true, vB, List.replicate, List.length_cons, List.length_nil, List.cons_append, List.nil_append, List.set, List.map_cons, List.map_nil, agSlots, putObs, notSlot_val, notSlot_obj, List.all_cons, List.all_nil, Bool.and_self, Bool.and_true, outsFrom, obOf_bor, obOf_own, wipeE, back, isBd, isId, isSd, isTd, noneB, g0, g1, g2, g3, g4, g5, g6, g7, g8, g9, g10, g11, g13, g14, g15, g16, g17, g18, g19, g20, g21, g22, g23, Bool.not_true, Bool.false_eq_true, if_false]
      refine ⟨by decide, l7, 7, rfl, by decide, fun n l8 n0 n1 => ⟨rfl, ?_⟩⟩
      simp only [bodyCt, wE_v, wE_g, wE_k, wE_op, wE_neg, wE_cmp, wE_isN, wE_ch, wE_nt, wE_bo, wE_ife, wE_tup, wE_lst, wE_dnew, wE_ix, wE_sl, wE_call, wE_bf, wE_mut, wE_comp, onEn_val, onEn_own, onEn_bor, res_val, res_obj, res_slot, frz_val, frz_obj, frz_slot, retR_val, retR_obj, retR_slot, objAt_w, isObj_w, isLst_w, putOb_w, agEn_d, agEn_s, setV_w, setEn_no, setEn_val, setEn_own, isNEn_d, isNEn_o, asB_b, onVal_v, setR_val, setR_obj, setR_slot, setRs_nil, setRs_cons, setVs_nil, setVs_cons, asgT_one, asgT_tup, extS_l, opt_s, wFs_nil, wFs_cons, wOs_nil, wOs_cons, wAs_nil, wAs_cons, wAs_bor, wBo_one, wBo_cons, wPart_nil, wPart_one, wCond_nil, wCond_one, wIt_rng1, wIt_rng2, wIt_seq, onInt_i, onSeq_l, onSeq_t, onTup_t, wSs_nil, wSs_cons, wS_set, wS_setT, wS_par, wS_setI, wS_aug, augEn_val, augEn_own, wS_augI, wS_ex, wS_ret, wS_retN, wS_ifs, wS_fo, wS_brk, wS_pas, ix_t, ix_l, ix_o, sl_t, sl_l, sl_o, o_add, o_sub, o_mul, o_fdiv, o_mod, o_pow, o_addT, o_addDD, o_addDO, o_addOD, o_addOO, neg_i, c_lt, c_le, c_gt, c_ge, c_eqI, c_neI, f_lenT, f_lenL, f_lenO, f_int, f_intB, f_abs, f_max2, f_min2, f_tupT, f_tupL, f_tupO, f_lstT, f_lstL, f_lstO, f_isB, f_isI, f_isS, f_isT, f_sumL, f_sumT, f_maxO, f_minO, f_maxT, f_minT, f_sortO, f_setO, mm_app, mm_rev, mm_pop, si_l, get_0, get_s, resEn_own, resEn_bor, resEn_val, frzEn_own, frzEn_val, retEn_own, retEn_val, objEn_own, objEn_bor, isObEn_own, isObEn_bor, isLsEn_own, isLsEn_bor, putEn_own, putEn_bor, agEn_own, agEn_bor, ag_nil, ag_one, true_and, and_true, vB, List.replicate, List.length_cons, List.length_nil, List.cons_append, List.nil_append, List.set, List.map_cons, List.map_nil, agSlots, putObs, notSlot_val, notSlot_obj, List.all_cons, List.all_nil, Bool.and_self, Bool.and_true, outsFrom, obOf_bor, obOf_own, wipeE, back, isBd, isId, isSd, isTd, noneB, g0, g1, g2, g3, g4, g5, g6, g7, g8, g9, g10, g11, g13, g14, g15, g16, g17, g18, g19, g20, g21, g22, g23, intO]
      refine ⟨⟨⟨by omega, by omega⟩, by omega⟩, ?_⟩
      refine wFor_map (fun i : Nat => .int (0 + (i : Nat))) (fun as ρ => ∃ l ms e12, ρ = [.val (.list (ns.map .int)), .own (.lst (List.map PyData.int l)), .val (.int scale), .val (.tuple (st.map eP)), .no, .no, .val (.tuple (ot.map eP)), .val (.int w), .val (.list ((setU ((st ++ ot).map (·.1))).map .int)), .no, .own (.lst ((bothL st ot w).map .int)), .own (.lst (List.map eM ms)), e12, .no, .no, .no, .no, .no, .no, .no] ∧
        nv e12 ∧ (∀ m ∈ ms, (Sm m.1.1 ∧ Sm m.1.2) ∧ Sm m.2.1.1 ∧ Sm m.2.1.2) ∧ ms.length + as.length ≤ 7) ?_ ?_ (List.range (n - 0).toNat) _ ⟨l8, [], .no, rfl, trivial, (fun m hm => by simp at hm), by rw [List.length_range, List.length_nil]; omega⟩
      · rintro a as ρ k ⟨l, ms, e12, rfl, h12, hms, hl⟩ hk
        rw [List.length_cons] at hl
        simp only [bodyCt, wE_v, wE_g, wE_k, wE_op, wE_neg, wE_cmp, wE_isN, wE_ch, wE_nt, wE_bo, wE_ife, wE_tup, wE_lst, wE_dnew, wE_ix, wE_sl, wE_call, wE_bf, wE_mut, wE_comp, onEn_val, onEn_own, onEn_bor, res_val, res_obj, res_slot, frz_val, frz_obj, frz_slot, retR_val, retR_obj, retR_slot, objAt_w, isObj_w, isLst_w, putOb_w, agEn_d, agEn_s, setV_w, setEn_no, setEn_val, setEn_own, isNEn_d, isNEn_o, asB_b, onVal_v, setR_val, setR_obj, setR_slot, setRs_nil, setRs_cons, setVs_nil, setVs_cons, asgT_one, asgT_tup, extS_l, opt_s, wFs_nil, wFs_cons, wOs_nil, wOs_cons, wAs_nil, wAs_cons, wAs_bor, wBo_one, wBo_cons, wPart_nil, wPart_one, wCond_nil, wCond_one, wIt_rng1, wIt_rng2, wIt_seq, onInt_i, onSeq_l, onSeq_t, onTup_t, wSs_nil, wSs_cons, wS_set, wS_setT, wS_par, wS_setI, wS_aug, augEn_val, augEn_own, wS_augI, wS_ex, wS_ret, wS_retN, wS_ifs, wS_fo, wS_brk, wS_pas, ix_t, ix_l, ix_o, sl_t, sl_l, sl_o, o_add, o_sub, o_mul, o_fdiv, o_mod, o_pow, o_addT, o_addDD, o_addDO, o_addOD, o_addOO, neg_i, c_lt, c_le, c_gt, c_ge, c_eqI, c_neI, f_lenT, f_lenL, f_lenO, f_int, f_intB, f_abs, f_max2, f_min2, f_tupT, f_tupL, f_tupO, f_lstT, f_lstL, f_lstO, f_isB, f_isI, f_isS, f_isT, f_sumL, f_sumT, f_maxO, f_minO, f_maxT, f_minT, f_sortO, f_setO, mm_app, mm_rev, mm_pop, si_l, get_0, get_s, resEn_own, resEn_bor, resEn_val, frzEn_own, frzEn_val, retEn_own, retEn_val, objEn_own, objEn_bor, isObEn_own, isObEn_bor, isLsEn_own, isLsEn_bor, putEn_own, putEn_bor, agEn_own, agEn_bor, ag_nil, ag_one, true_and, and_true, vB, List.replicate, List.length_cons, List.length_nil, List.cons_append, List.nil_append, List.set, List.map_cons, List.map_nil, agSlots, putObs, notSlot_val, notSlot_obj, List.all_cons, List.all_nil, Bool.and_self, Bool.and_true, outsFrom, obOf_bor, obOf_own, wipeE, back, isBd, isId, isSd, isTd, noneB, g0, g1, g2, g3, g4, g5, g6, g7, g8, g9, g10, g11, g13, g14, g15, g16, g17, g18, g19, g20, g21, g22, g23, intO, setEn_nb (nv_nb h12)]
        refine ⟨l, 20, rfl, by decide, fun x1 m1 x10 x11 => ⟨rfl, ?_⟩⟩
        simp only [bodyCt, wE_v, wE_g, wE_k, wE_op, wE_neg, wE_cmp, wE_isN, wE_ch, wE_nt, wE_bo, wE_ife, wE_tup, wE_lst, wE_dnew, wE_ix, wE_sl, wE_call, wE_bf, wE_mut, wE_comp, onEn_val, onEn_own, onEn_bor, res_val, res_obj, res_slot, frz_val, frz_obj, frz_slot, retR_val, retR_obj, retR_slot, objAt_w, isObj_w, isLst_w, putOb_w, agEn_d, agEn_s, setV_w, setEn_no, setEn_val, setEn_own, isNEn_d, isNEn_o, asB_b, onVal_v, setR_val, setR_obj, setR_slot, setRs_nil, setRs_cons, setVs_nil, setVs_cons, asgT_one, asgT_tup, extS_l, opt_s, wFs_nil, wFs_cons, wOs_nil, wOs_cons, wAs_nil, wAs_cons, wAs_bor, wBo_one, wBo_cons, wPart_nil, wPart_one, wCond_nil, wCond_one, wIt_rng1, wIt_rng2, wIt_seq, onInt_i, onSeq_l, onSeq_t, onTup_t, wSs_nil, wSs_cons, wS_set, wS_setT, wS_par, wS_setI, wS_aug, augEn_val, augEn_own, wS_augI, wS_ex, wS_ret, wS_retN, wS_ifs, wS_fo, wS_brk, wS_pas, ix_t, ix_l, ix_o, sl_t, sl_l, sl_o, o_add, o_sub, o_mul, o_fdiv, o_mod, o_pow, o_addT, o_addDD, o_addDO, o_addOD, o_addOO, neg_i, c_lt, c_le, c_gt, c_ge, c_eqI, c_neI, f_lenT, f_lenL, f_lenO, f_int, f_intB, f_abs, f_max2, f_min2, f_tupT, f_tupL, f_tupO, f_lstT, f_lstL, f_lstO, f_isB, f_isI, f_isS, f_isT, f_sumL, f_sumT, f_maxO, f_minO, f_maxT, f_minT, f_sortO, f_setO, mm_app, mm_rev, mm_pop, si_l, get_0, get_s, resEn_own, resEn_bor, resEn_val, frzEn_own, frzEn_val, retEn_own, retEn_val, objEn_own, objEn_bor, isObEn_own, isObEn_bor, isLsEn_own, isLsEn_bor, putEn_own, putEn_bor, agEn_own, agEn_bor, ag_nil, ag_one, true_and, and_true, vB, List.replicate, List.length_cons, List.length_nil, List.cons_append, List.nil_append, List.set, List.map_cons, List.map_nil, agSlots, putObs, notSlot_val, notSlot_obj, List.all_cons, List.all_nil, Bool.and_self, Bool.and_true, outsFrom, obOf_bor, obOf_own, wipeE, back, isBd, isId, isSd, isTd, noneB, g0, g1, g2, g3, g4, g5, g6, g7, g8, g9, g10, g11, g13, g14, g15, g16, g17, g18, g19, g20, g21, g22, g23, intO]
        refine ⟨m1, 20, rfl, by decide, fun x2 m2 x20 x21 => ⟨rfl, ?_⟩⟩
        simp only [bodyCt, wE_v, wE_g, wE_k, wE_op, wE_neg, wE_cmp, wE_isN, wE_ch, wE_nt, wE_bo, wE_ife, wE_tup, wE_lst, wE_dnew, wE_ix, wE_sl, wE_call, wE_bf, wE_mut, wE_comp, onEn_val, onEn_own, onEn_bor, res_val, res_obj, res_slot, frz_val, frz_obj, frz_slot, retR_val, retR_obj, retR_slot, objAt_w, isObj_w, isLst_w, putOb_w, agEn_d, agEn_s, setV_w, setEn_no, setEn_val, setEn_own, isNEn_d, isNEn_o, asB_b, onVal_v, setR_val, setR_obj, setR_slot, setRs_nil, setRs_cons, setVs_nil, setVs_cons, asgT_one, asgT_tup, extS_l, opt_s, wFs_nil, wFs_cons, wOs_nil, wOs_cons, wAs_nil, wAs_cons, wAs_bor, wBo_one, wBo_cons, wPart_nil, wPart_one, wCond_nil, wCond_one, wIt_rng1, wIt_rng2, wIt_seq, onInt_i, onSeq_l, onSeq_t, onTup_t, wSs_nil, wSs_cons, wS_set, wS_setT, wS_par, wS_setI, wS_aug, augEn_val, augEn_own, wS_augI, wS_ex, wS_ret, wS_retN, wS_ifs, wS_fo, wS_brk, wS_pas, ix_t, ix_l, ix_o, sl_t, sl_l, sl_o, o_add, o_sub, o_mul, o_fdiv, o_mod, o_pow, o_addT, o_addDD, o_addDO, o_addOD, o_addOO, neg_i, c_lt, c_le, c_gt, c_ge, c_eqI, c_neI, f_lenT, f_lenL, f_lenO, f_int, f_intB, f_abs, f_max2, f_min2, f_tupT, f_tupL, f_tupO, f_lstT, f_lstL, f_lstO, f_isB, f_isI, f_isS, f_isT, f_sumL, f_sumT, f_maxO, f_minO, f_maxT, f_minT, f_sortO, f_setO, mm_app, mm_rev, mm_pop, si_l, get_0, get_s, resEn_own, resEn_bor, resEn_val, frzEn_own, frzEn_val, retEn_own, retEn_val, objEn_own, objEn_bor, isObEn_own, isObEn_bor, isLsEn_own, isLsEn_bor, putEn_own, putEn_bor, agEn_own, agEn_bor, ag_nil, ag_one, true_and, and_true, vB, List.replicate, List.length_cons, List.length_nil, List.cons_append, List.nil_append, List.set, List.map_cons, List.map_nil, agSlots, putObs, notSlot_val, notSlot_obj, List.all_cons, List.all_nil, Bool.and_self, Bool.and_true, outsFrom, obOf_bor, obOf_own, wipeE, back, isBd, isId, isSd, isTd, noneB, g0, g1, g2, g3, g4, g5, g6, g7, g8, g9, g10, g11, g13, g14, g15, g16, g17, g18, g19, g20, g21, g22, g23, intO]
        refine ⟨by decide, m2, 20, rfl, by decide, fun x3 m3 x30 x31 => ⟨rfl, ?_⟩⟩
        simp only [bodyCt, wE_v, wE_g, wE_k, wE_op, wE_neg, wE_cmp, wE_isN, wE_ch, wE_nt, wE_bo, wE_ife, wE_tup, wE_lst, wE_dnew, wE_ix, wE_sl, wE_call, wE_bf, wE_mut, wE_comp, onEn_val, onEn_own, onEn_bor, res_val, res_obj, res_slot, frz_val, frz_obj, frz_slot, retR_val, retR_obj, retR_slot, objAt_w, isObj_w, isLst_w, putOb_w, agEn_d, agEn_s, setV_w, setEn_no, setEn_val, setEn_own, isNEn_d, isNEn_o, asB_b, onVal_v, setR_val, setR_obj, setR_slot, setRs_nil, setRs_cons, setVs_nil, setVs_cons, asgT_one, asgT_tup, extS_l, opt_s, wFs_nil, wFs_cons, wOs_nil, wOs_cons, wAs_nil, wAs_cons, wAs_bor, wBo_one, wBo_cons, wPart_nil, wPart_one, wCond_nil, wCond_one, wIt_rng1, wIt_rng2, wIt_seq, onInt_i, onSeq_l, onSeq_t, onTup_t, wSs_nil, wSs_cons, wS_set, wS_setT, wS_par, wS_setI, wS_aug, augEn_val, augEn_own, wS_augI, wS_ex, wS_ret, wS_retN, wS_ifs, wS_fo, wS_brk, wS_pas, ix_t, ix_l, ix_o, sl_t, sl_l, sl_o, o_add, o_sub, o_mul, o_fdiv, o_mod, o_pow, o_addT, o_addDD, o_addDO, o_addOD, o_addOO, neg_i, c_lt, c_le, c_gt, c_ge, c_eqI, c_neI, f_lenT, f_lenL, f_lenO, f_int, f_intB, f_abs, f_max2, f_min2, f_tupT, f_tupL, f_tupO, f_lstT, f_lstL, f_lstO, f_isB, f_isI, f_isS, f_isT, f_sumL, f_sumT, f_maxO, f_minO, f_maxT, f_minT, f_sortO, f_setO, mm_app, mm_rev, mm_pop, si_l, get_0, get_s, resEn_own, resEn_bor, resEn_val, frzEn_own, frzEn_val, retEn_own, retEn_val, objEn_own, objEn_bor, isObEn_own, isObEn_bor, isLsEn_own, isLsEn_bor, putEn_own, putEn_bor, agEn_own, agEn_bor, ag_nil, ag_one, true_and, and_true, vB, List.replicate, List.length_cons, List.length_nil, List.cons_append, List.nil_append, List.set, List.map_cons, List.map_nil, agSlots, putObs, notSlot_val, notSlot_obj, List.all_cons, List.all_nil, Bool.and_self, Bool.and_true, outsFrom, obOf_bor, obOf_own, wipeE, back, isBd, isId, isSd, isTd, noneB, g0, g1, g2, g3, g4, g5, g6, g7, g8, g9, g10, g11, g13, g14, g15, g16, g17, g18, g19, g20, g21, g22, g23, intO]
        refine ⟨m3, 12, rfl, by decide, fun x4 m4 x40 x41 => ⟨rfl, ?_⟩⟩
        simp only [bodyCt, wE_v, wE_g, wE_k, wE_op, wE_neg, wE_cmp, wE_isN, wE_ch, wE_nt, wE_bo, wE_ife, wE_tup, wE_lst, wE_dnew, wE_ix, wE_sl, wE_call, wE_bf, wE_mut, wE_comp, onEn_val, onEn_own, onEn_bor, res_val, res_obj, res_slot, frz_val, frz_obj, frz_slot, retR_val, retR_obj, retR_slot, objAt_w, isObj_w, isLst_w, putOb_w, agEn_d, agEn_s, setV_w, setEn_no, setEn_val, setEn_own, isNEn_d, isNEn_o, asB_b, onVal_v, setR_val, setR_obj, setR_slot, setRs_nil, setRs_cons, setVs_nil, setVs_cons, asgT_one, asgT_tup, extS_l, opt_s, wFs_nil, wFs_cons, wOs_nil, wOs_cons, wAs_nil, wAs_cons, wAs_bor, wBo_one, wBo_cons, wPart_nil, wPart_one, wCond_nil, wCond_one, wIt_rng1, wIt_rng2, wIt_seq, onInt_i, onSeq_l, onSeq_t, onTup_t, wSs_nil, wSs_cons, wS_set, wS_setT, wS_par, wS_setI, wS_aug, augEn_val, augEn_own, wS_augI, wS_ex, wS_ret, wS_retN, wS_ifs, wS_fo, wS_brk, wS_pas, ix_t, ix_l, ix_o, sl_t, sl_l, sl_o, o_add, o_sub, o_mul, o_fdiv, o_mod, o_pow, o_addT, o_addDD, o_addDO, o_addOD, o_addOO, neg_i, c_lt, c_le, c_gt, c_ge, c_eqI, c_neI, f_lenT, f_lenL, f_lenO, f_int, f_intB, f_abs, f_max2, f_min2, f_tupT, f_tupL, f_tupO, f_lstT, f_lstL, f_lstO, f_isB, f_isI, f_isS, f_isT, f_sumL, f_sumT, f_maxO, f_minO, f_maxT, f_minT, f_sortO, f_setO, mm_app, mm_rev, mm_pop, si_l, get_0, get_s, resEn_own, resEn_bor, resEn_val, frzEn_own, frzEn_val, retEn_own, retEn_val, objEn_own, objEn_bor, isObEn_own, isObEn_bor, isLsEn_own, isLsEn_bor, putEn_own, putEn_bor, agEn_own, agEn_bor, ag_nil, ag_one, true_and, and_true, vB, List.replicate, List.length_cons, List.length_nil, List.cons_append, List.nil_append, List.set, List.map_cons, List.map_nil, agSlots, putObs, notSlot_val, notSlot_obj, List.all_cons, List.all_nil, Bool.and_self, Bool.and_true, outsFrom, obOf_bor, obOf_own, wipeE, back, isBd, isId, isSd, isTd, noneB, g0, g1, g2, g3, g4, g5, g6, g7, g8, g9, g10, g11, g13, g14, g15, g16, g17, g18, g19, g20, g21, g22, g23, intO]
        refine ⟨by decide, m4, 40, rfl, by decide, fun x5 m5 x50 x51 => ⟨rfl, ?_⟩⟩
        simp only [bodyCt, wE_v, wE_g, wE_k, wE_op, wE_neg, wE_cmp, wE_isN, wE_ch, wE_nt, wE_bo, wE_ife, wE_tup, wE_lst, wE_dnew, wE_ix, wE_sl, wE_call, wE_bf, wE_mut, wE_comp, onEn_val, onEn_own, onEn_bor, res_val, res_obj, res_slot, frz_val, frz_obj, frz_slot, retR_val, retR_obj, retR_slot, objAt_w, isObj_w, isLst_w, putOb_w, agEn_d, agEn_s, setV_w, setEn_no, setEn_val, setEn_own, isNEn_d, isNEn_o, asB_b, onVal_v, setR_val, setR_obj, setR_slot, setRs_nil, setRs_cons, setVs_nil, setVs_cons, asgT_one, asgT_tup, extS_l, opt_s, wFs_nil, wFs_cons, wOs_nil, wOs_cons, wAs_nil, wAs_cons, wAs_bor, wBo_one, wBo_cons, wPart_nil, wPart_one, wCond_nil, wCond_one, wIt_rng1, wIt_rng2, wIt_seq, onInt_i, onSeq_l, onSeq_t, onTup_t, wSs_nil, wSs_cons, wS_set, wS_setT, wS_par, wS_setI, wS_aug, augEn_val, augEn_own, wS_augI, wS_ex, wS_ret, wS_retN, wS_ifs, wS_fo, wS_brk, wS_pas, ix_t, ix_l, ix_o, sl_t, sl_l, sl_o, o_add, o_sub, o_mul, o_fdiv, o_mod, o_pow, o_addT, o_addDD, o_addDO, o_addOD, o_addOO, neg_i, c_lt, c_le, c_gt, c_ge, c_eqI, c_neI, f_lenT, f_lenL, f_lenO, f_int, f_intB, f_abs, f_max2, f_min2, f_tupT, f_tupL, f_tupO, f_lstT, f_lstL, f_lstO, f_isB, f_isI, f_isS, f_isT, f_sumL, f_sumT, f_maxO, f_minO, f_maxT, f_minT, f_sortO, f_setO, mm_app, mm_rev, mm_pop, si_l, get_0, get_s, resEn_own, resEn_bor, resEn_val, frzEn_own, frzEn_val, retEn_own, retEn_val, objEn_own, objEn_bor, isObEn_own, isObEn_bor, isLsEn_own, isLsEn_bor, putEn_own, putEn_bor, agEn_own, agEn_bor, ag_nil, ag_one, true_and, and_true, vB, List.replicate, List.length_cons, List.length_nil, List.cons_append, List.nil_append, List.set, List.map_cons, List.map_nil, agSlots, putObs, notSlot_val, notSlot_obj, List.all_cons, List.all_nil, Bool.and_self, Bool.and_true, outsFrom, obOf_bor, obOf_own, wipeE, back, isBd, isId, isSd, isTd, noneB, g0, g1, g2, g3, g4, g5, g6, g7, g8, g9, g10, g11, g13, g14, g15, g16, g17, g18, g19, g20, g21, g22, g23, intO, List.length_map]
        refine ⟨mul_smallL (by omega) (by omega), by decide, by omega, ?_⟩
        rw [show List.map eM ms ++ [PyData.tuple [.tuple [.int (x1 - 10), .int (x2 - 10)], .tuple [.int (x3 - 10), .int (x4 - 6)], .int (x5 * scale)]] = (ms ++ [((x1 - 10, x2 - 10), (x3 - 10, x4 - 6), x5 * scale)]).map eM by rw [List.map_append]; rfl]
        refine hk _ ⟨m5, _, _, rfl, trivial, fun m hm => ?_, by rw [List.length_append, List.length_singleton]; omega⟩
        rcases List.mem_append.mp hm with e | e
        · exact hms m e
        · rw [List.mem_singleton] at e
          subst e
          exact ⟨⟨⟨by show _ < x1 - 10; omega, by show x1 - 10 < _; omega⟩, ⟨by show _ < x2 - 10; omega, by show x2 - 10 < _; omega⟩⟩, ⟨by show _ < x3 - 10; omega, by show x3 - 10 < _; omega⟩, ⟨by show _ < x4 - 6; omega, by show x4 - 6 < _; omega⟩⟩
      rintro ρ ⟨l9, ms, e12, rfl, h12, hms, hml⟩
      rw [List.length_nil] at hml
      simp only [bodyCt, wE_v, wE_g, wE_k, wE_op, wE_neg, wE_cmp, wE_isN, wE_ch, wE_nt, wE_bo, wE_ife, wE_tup, wE_lst, wE_dnew, wE_ix, wE_sl, wE_call, wE_bf, wE_mut, wE_comp, onEn_val, onEn_own, onEn_bor, res_val, res_obj, res_slot, frz_val, frz_obj, frz_slot, retR_val, retR_obj, retR_slot, objAt_w, isObj_w, isLst_w, putOb_w, agEn_d, agEn_s, setV_w, setEn_no, setEn_val, setEn_own, isNEn_d, isNEn_o, asB_b, onVal_v, setR_val, setR_obj, setR_slot, setRs_nil, setRs_cons, setVs_nil, setVs_cons, asgT_one, asgT_tup, extS_l, opt_s, wFs_nil, wFs_cons, wOs_nil, wOs_cons, wAs_nil, wAs_cons, wAs_bor, wBo_one, wBo_cons, wPart_nil, wPart_one, wCond_nil, wCond_one, wIt_rng1, wIt_rng2, wIt_seq, onInt_i, onSeq_l, onSeq_t, onTup_t, wSs_nil, wSs_cons, wS_set, wS_setT, wS_par, wS_setI, wS_aug, augEn_val, augEn_own, wS_augI, wS_ex, wS_ret, wS_retN, wS_ifs, wS_fo, wS_brk, wS_pas, ix_t, ix_l, ix_o, sl_t, sl_l, sl_o, o_add, o_sub, o_mul, o_fdiv, o_mod, o_pow, o_addT, o_addDD, o_addDO, o_addOD, o_addOO, neg_i, c_lt, c_le, c_gt, c_ge, c_eqI, c_neI, f_lenT, f_lenL, f_lenO, f_int, f_intB, f_abs, f_max2, f_min2, f_tupT, f_tupL, f_tupO, f_lstT, f_lstL, f_lstO, f_isB, f_isI, f_isS, f_isT, f_sumL, f_sumT, f_maxO, f_minO, f_maxT, f_minT, f_sortO, f_setO, mm_app, mm_rev, mm_pop, si_l, get_0, get_s, resEn_own, resEn_bor, resEn_val, frzEn_own, frzEn_val, retEn_own, retEn_val, objEn_own, objEn_bor, isObEn_own, isObEn_bor, isLsEn_own, isLsEn_bor, putEn_own, putEn_bor, agEn_own, agEn_bor, ag_nil, ag_one, true_and, and_true, vB, List.replicate, List.length_cons, List.length_nil, List.cons_append, List.nil_append, List.set, List.map_cons, List.map_nil, agSlots, putObs, notSlot_val, notSlot_obj, List.all_cons, List.all_nil, Bool.and_self, Bool.and_true, outsFrom, obOf_bor, obOf_own, wipeE, back, isBd, isId, isSd, isTd, noneB, g0, g1, g2, g3, g4, g5, g6, g7, g8, g9, g10, g11, g13, g14, g15, g16, g17, g18, g19, g20, g21, g22, g23, intO]
      refine ⟨l9, 6, rfl, by decide, fun np l10 p0 p1 => ⟨rfl, ?_⟩⟩
      simp only [bodyCt, wE_v, wE_g, wE_k, wE_op, wE_neg, wE_cmp, wE_isN, wE_ch, wE_nt, wE_bo, wE_ife, wE_tup, wE_lst, wE_dnew, wE_ix, wE_sl, wE_call, wE_bf, wE_mut, wE_comp, onEn_val, onEn_own, onEn_bor, res_val, res_obj, res_slot, frz_val, frz_obj, frz_slot, retR_val, retR_obj, retR_slot, objAt_w, isObj_w, isLst_w, putOb_w, agEn_d, agEn_s, setV_w, setEn_no, setEn_val, setEn_own, isNEn_d, isNEn_o, asB_b, onVal_v, setR_val, setR_obj, setR_slot, setRs_nil, setRs_cons, setVs_nil, setVs_cons, asgT_one, asgT_tup, extS_l, opt_s, wFs_nil, wFs_cons, wOs_nil, wOs_cons, wAs_nil, wAs_cons, wAs_bor, wBo_one, wBo_cons, wPart_nil, wPart_one, wCond_nil, wCond_one, wIt_rng1, wIt_rng2, wIt_seq, onInt_i, onSeq_l, onSeq_t, onTup_t, wSs_nil, wSs_cons, wS_set, wS_setT, wS_par, wS_setI, wS_aug, augEn_val, augEn_own, wS_augI, wS_ex, wS_ret, wS_retN, wS_ifs, wS_fo, wS_brk, wS_pas, ix_t, ix_l, ix_o, sl_t, sl_l, sl_o, o_add, o_sub, o_mul, o_fdiv, o_mod, o_pow, o_addT, o_addDD, o_addDO, o_addOD, o_addOO, neg_i, c_lt, c_le, c_gt, c_ge, c_eqI, c_neI, f_lenT, f_lenL, f_lenO, f_int, f_intB, f_abs, f_max2, f_min2, f_tupT, f_tupL, f_tupO, f_lstT, f_lstL, f_lstO, f_isB, f_isI, f_isS, f_isT, f_sumL, f_sumT, f_maxO, f_minO, f_maxT, f_minT, f_sortO, f_setO, mm_app, mm_rev, mm_pop, si_l, get_0, get_s, resEn_own, resEn_bor, resEn_val, frzEn_own, frzEn_val, retEn_own, retEn_val, objEn_own, objEn_bor, isObEn_own, isObEn_bor, isLsEn_own, isLsEn_bor, putEn_own, putEn_bor, agEn_own, agEn_bor, ag_nil, ag_one, true_and, and_true, vB, List.replicate, List.length_cons, List.length_nil, List.cons_append, List.nil_append, List.set, List.map_cons, List.map_nil, agSlots, putObs, notSlot_val, notSlot_obj, List.all_cons, List.all_nil, Bool.and_self, Bool.and_true, outsFrom, obOf_bor, obOf_own, wipeE, back, isBd, isId, isSd, isTd, noneB, g0, g1, g2, g3, g4, g5, g6, g7, g8, g9, g10, g11, g13, g14, g15, g16, g17, g18, g19, g20, g21, g22, g23, intO]
      refine ⟨⟨⟨by omega, by omega⟩, by omega⟩, noObj_one h12, ?_⟩
      refine wComp_ind0 (fun i : Nat => .int (0 + (i : Nat))) (fun as acc ρ => ∃ l ps, ρ = [.val (.list (ns.map .int)), .own (.lst (List.map PyData.int l)), .val (.int scale), .val (.tuple (st.map eP)), .no, .no, .val (.tuple (ot.map eP)), .val (.int w), .val (.list ((setU ((st ++ ot).map (·.1))).map .int)), .no, .own (.lst ((bothL st ot w).map .int)), .own (.lst (List.map eM ms)), .no, .no, .no, .no, .no, .no, .no, .no] ∧
        acc = List.map eP ps ∧ (∀ p ∈ ps, Sm p.1 ∧ Sm p.2) ∧ ps.length + as.length ≤ 7) ?_ ?_ (List.range (np - 0).toNat) _ ⟨l10, [], rfl, rfl, (fun p hp => by simp at hp), by rw [List.length_range, List.length_nil]; omega⟩
      · rintro a as acc ρ kt kf ⟨l, ps, rfl, rfl, hps, hl⟩ h1 h2
        rw [List.length_cons] at hl
        simp only [bodyCt, wE_v, wE_g, wE_k, wE_op, wE_neg, wE_cmp, wE_isN, wE_ch, wE_nt, wE_bo, wE_ife, wE_tup, wE_lst, wE_dnew, wE_ix, wE_sl, wE_call, wE_bf, wE_mut, wE_comp, onEn_val, onEn_own, onEn_bor, res_val, res_obj, res_slot, frz_val, frz_obj, frz_slot, retR_val, retR_obj, retR_slot, objAt_w, isObj_w, isLst_w, putOb_w, agEn_d, agEn_s, setV_w, setEn_no, setEn_val, setEn_own, isNEn_d, isNEn_o, asB_b, onVal_v, setR_val, setR_obj, setR_slot, setRs_nil, setRs_cons, setVs_nil, setVs_cons, asgT_one, asgT_tup, extS_l, opt_s, wFs_nil, wFs_cons, wOs_nil, wOs_cons, wAs_nil, wAs_cons, wAs_bor, wBo_one, wBo_cons, wPart_nil, wPart_one, wCond_nil, wCond_one, wIt_rng1, wIt_rng2, wIt_seq, onInt_i, onSeq_l, onSeq_t, onTup_t, wSs_nil, wSs_cons, wS_set, wS_setT, wS_par, wS_setI, wS_aug, augEn_val, augEn_own, wS_augI, wS_ex, wS_ret, wS_retN, wS_ifs, wS_fo, wS_brk, wS_pas, ix_t, ix_l, ix_o, sl_t, sl_l, sl_o, o_add, o_sub, o_mul, o_fdiv, o_mod, o_pow, o_addT, o_addDD, o_addDO, o_addOD, o_addOO, neg_i, c_lt, c_le, c_gt, c_ge, c_eqI, c_neI, f_lenT, f_lenL, f_lenO, f_int, f_intB, f_abs, f_max2, f_min2, f_tupT, f_tupL, f_tupO, f_lstT, f_lstL, f_lstO, f_isB, f_isI, f_isS, f_isT, f_sumL, f_sumT, f_maxO, f_minO, f_maxT, f_minT, f_sortO, f_setO, mm_app, mm_rev, mm_pop, si_l, get_0, get_s, resEn_own, resEn_bor, resEn_val, frzEn_own, frzEn_val, retEn_own, retEn_val, objEn_own, objEn_bor, isObEn_own, isObEn_bor, isLsEn_own, isLsEn_bor, putEn_own, putEn_bor, agEn_own, agEn_bor, ag_nil, ag_one, true_and, and_true, vB, List.replicate, List.length_cons, List.length_nil, List.cons_append, List.nil_append, List.set, List.map_cons, List.map_nil, agSlots, putObs, notSlot_val, notSlot_obj, List.all_cons, List.all_nil, Bool.and_self, Bool.and_true, outsFrom, obOf_bor, obOf_own, wipeE, back, isBd, isId, isSd, isTd, noneB, g0, g1, g2, g3, g4, g5, g6, g7, g8, g9, g10, g11, g13, g14, g15, g16, g17, g18, g19, g20, g21, g22, g23, intO, if_true]
        refine ⟨l, 9, rfl, by decide, fun x1 m1 x10 x11 => ⟨rfl, ?_⟩⟩
        simp only [bodyCt, wE_v, wE_g, wE_k, wE_op, wE_neg, wE_cmp, wE_isN, wE_ch, wE_nt, wE_bo, wE_ife, wE_tup, wE_lst, wE_dnew, wE_ix, wE_sl, wE_call, wE_bf, wE_mut, wE_comp, onEn_val, onEn_own, onEn_bor, res_val, res_obj, res_slot, frz_val, frz_obj, frz_slot, retR_val, retR_obj, retR_slot, objAt_w, isObj_w, isLst_w, putOb_w, agEn_d, agEn_s, setV_w, setEn_no, setEn_val, setEn_own, isNEn_d, isNEn_o, asB_b, onVal_v, setR_val, setR_obj, setR_slot, setRs_nil, setRs_cons, setVs_nil, setVs_cons, asgT_one, asgT_tup, extS_l, opt_s, wFs_nil, wFs_cons, wOs_nil, wOs_cons, wAs_nil, wAs_cons, wAs_bor, wBo_one, wBo_cons, wPart_nil, wPart_one, wCond_nil, wCond_one, wIt_rng1, wIt_rng2, wIt_seq, onInt_i, onSeq_l, onSeq_t, onTup_t, wSs_nil, wSs_cons, wS_set, wS_setT, wS_par, wS_setI, wS_aug, augEn_val, augEn_own, wS_augI, wS_ex, wS_ret, wS_retN, wS_ifs, wS_fo, wS_brk, wS_pas, ix_t, ix_l, ix_o, sl_t, sl_l, sl_o, o_add, o_sub, o_mul, o_fdiv, o_mod, o_pow, o_addT, o_addDD, o_addDO, o_addOD, o_addOO, neg_i, c_lt, c_le, c_gt, c_ge, c_eqI, c_neI, f_lenT, f_lenL, f_lenO, f_int, f_intB, f_abs, f_max2, f_min2, f_tupT, f_tupL, f_tupO, f_lstT, f_lstL, f_lstO, f_isB, f_isI, f_isS, f_isT, f_sumL, f_sumT, f_maxO, f_minO, f_maxT, f_minT, f_sortO, f_setO, mm_app, mm_rev, mm_pop, si_l, get_0, get_s, resEn_own, resEn_bor, resEn_val, frzEn_own, frzEn_val, retEn_own, retEn_val, objEn_own, objEn_bor, isObEn_own, isObEn_bor, isLsEn_own, isLsEn_bor, putEn_own, putEn_bor, agEn_own, agEn_bor, ag_nil, ag_one, true_and, and_true, vB, List.replicate, List.length_cons, List.length_nil, List.cons_append, List.nil_append, List.set, List.map_cons, List.map_nil, agSlots, putObs, notSlot_val, notSlot_obj, List.all_cons, List.all_nil, Bool.and_self, Bool.and_true, outsFrom, obOf_bor, obOf_own, wipeE, back, isBd, isId, isSd, isTd, noneB, g0, g1, g2, g3, g4, g5, g6, g7, g8, g9, g10, g11, g13, g14, g15, g16, g17, g18, g19, g20, g21, g22, g23, intO]
        refine ⟨m1, 9, rfl, by decide, fun x2 m2 x20 x21 => ⟨rfl, ?_⟩⟩
        simp only [bodyCt, wE_v, wE_g, wE_k, wE_op, wE_neg, wE_cmp, wE_isN, wE_ch, wE_nt, wE_bo, wE_ife, wE_tup, wE_lst, wE_dnew, wE_ix, wE_sl, wE_call, wE_bf, wE_mut, wE_comp, onEn_val, onEn_own, onEn_bor, res_val, res_obj, res_slot, frz_val, frz_obj, frz_slot, retR_val, retR_obj, retR_slot, objAt_w, isObj_w, isLst_w, putOb_w, agEn_d, agEn_s, setV_w, setEn_no, setEn_val, setEn_own, isNEn_d, isNEn_o, asB_b, onVal_v, setR_val, setR_obj, setR_slot, setRs_nil, setRs_cons, setVs_nil, setVs_cons, asgT_one, asgT_tup, extS_l, opt_s, wFs_nil, wFs_cons, wOs_nil, wOs_cons, wAs_nil, wAs_cons, wAs_bor, wBo_one, wBo_cons, wPart_nil, wPart_one, wCond_nil, wCond_one, wIt_rng1, wIt_rng2, wIt_seq, onInt_i, onSeq_l, onSeq_t, onTup_t, wSs_nil, wSs_cons, wS_set, wS_setT, wS_par, wS_setI, wS_aug, augEn_val, augEn_own, wS_augI, wS_ex, wS_ret, wS_retN, wS_ifs, wS_fo, wS_brk, wS_pas, ix_t, ix_l, ix_o, sl_t, sl_l, sl_o, o_add, o_sub, o_mul, o_fdiv, o_mod, o_pow, o_addT, o_addDD, o_addDO, o_addOD, o_addOO, neg_i, c_lt, c_le, c_gt, c_ge, c_eqI, c_neI, f_lenT, f_lenL, f_lenO, f_int, f_intB, f_abs, f_max2, f_min2, f_tupT, f_tupL, f_tupO, f_lstT, f_lstL, f_lstO, f_isB, f_isI, f_isS, f_isT, f_sumL, f_sumT, f_maxO, f_minO, f_maxT, f_minT, f_sortO, f_setO, mm_app, mm_rev, mm_pop, si_l, get_0, get_s, resEn_own, resEn_bor, resEn_val, frzEn_own, frzEn_val, retEn_own, retEn_val, objEn_own, objEn_bor, isObEn_own, isObEn_bor, isLsEn_own, isLsEn_bor, putEn_own, putEn_bor, agEn_own, agEn_bor, ag_nil, ag_one, true_and, and_true, vB, List.replicate, List.length_cons, List.length_nil, List.cons_append, List.nil_append, List.set, List.map_cons, List.map_nil, agSlots, putObs, notSlot_val, notSlot_obj, List.all_cons, List.all_nil, Bool.and_self, Bool.and_true, outsFrom, obOf_bor, obOf_own, wipeE, back, isBd, isId, isSd, isTd, noneB, g0, g1, g2, g3, g4, g5, g6, g7, g8, g9, g10, g11, g13, g14, g15, g16, g17, g18, g19, g20, g21, g22, g23, intO]
        refine ⟨by decide, h1 _ _ ⟨m2, ps ++ [(x1 - 4, x2 - 4)], rfl, by rw [List.map_append]; rfl, fun p hp => ?_, by rw [List.length_append, List.length_singleton]; omega⟩⟩
        rcases List.mem_append.mp hp with e | e
        · exact hps p e
        · rw [List.mem_singleton] at e
          subst e
          exact ⟨⟨by show _ < x1 - 4; omega, by show x1 - 4 < _; omega⟩, ⟨by show _ < x2 - 4; omega, by show x2 - 4 < _; omega⟩⟩
      rintro acc ρ ⟨l11, ps, rfl, rfl, hps, hpl⟩
      rw [List.length_nil] at hpl
      simp only [bodyCt, wE_v, wE_g, wE_k, wE_op, wE_neg, wE_cmp, wE_isN, wE_ch, wE_nt, wE_bo, wE_ife, wE_tup, wE_lst, wE_dnew, wE_ix, wE_sl, wE_call, wE_bf, wE_mut, wE_comp, onEn_val, onEn_own, onEn_bor, res_val, res_obj, res_slot, frz_val, frz_obj, frz_slot, retR_val, retR_obj, retR_slot, objAt_w, isObj_w, isLst_w, putOb_w, agEn_d, agEn_s, setV_w, setEn_no, setEn_val, setEn_own, isNEn_d, isNEn_o, asB_b, onVal_v, setR_val, setR_obj, setR_slot, setRs_nil, setRs_cons, setVs_nil, setVs_cons, asgT_one, asgT_tup, extS_l, opt_s, wFs_nil, wFs_cons, wOs_nil, wOs_cons, wAs_nil, wAs_cons, wAs_bor, wBo_one, wBo_cons, wPart_nil, wPart_one, wCond_nil, wCond_one, wIt_rng1, wIt_rng2, wIt_seq, onInt_i, onSeq_l, onSeq_t, onTup_t, wSs_nil, wSs_cons, wS_set, wS_setT, wS_par, wS_setI, wS_aug, augEn_val, augEn_own, wS_augI, wS_ex, wS_ret, wS_retN, wS_ifs, wS_fo, wS_brk, wS_pas, ix_t, ix_l, ix_o, sl_t, sl_l, sl_o, o_add, o_sub, o_mul, o_fdiv, o_mod, o_pow, o_addT, o_addDD, o_addDO, o_addOD, o_addOO, neg_i, c_lt, c_le, c_gt, c_ge, c_eqI, c_neI, f_lenT, f_lenL, f_lenO, f_int, f_intB, f_abs, f_max2, f_min2, f_tupT, f_tupL, f_tupO, f_lstT, f_lstL, f_lstO, f_isB, f_isI, f_isS, f_isT, f_sumL, f_sumT, f_maxO, f_minO, f_maxT, f_minT, f_sortO, f_setO, mm_app, mm_rev, mm_pop, si_l, get_0, get_s, resEn_own, resEn_bor, resEn_val, frzEn_own, frzEn_val, retEn_own, retEn_val, objEn_own, objEn_bor, isObEn_own, isObEn_bor, isLsEn_own, isLsEn_bor, putEn_own, putEn_bor, agEn_own, agEn_bor, ag_nil, ag_one, true_and, and_true, vB, List.replicate, List.length_cons, List.length_nil, List.cons_append, List.nil_append, List.set, List.map_cons, List.map_nil, agSlots, putObs, notSlot_val, notSlot_obj, List.all_cons, List.all_nil, Bool.and_self, Bool.and_true, outsFrom, obOf_bor, obOf_own, wipeE, back, isBd, isId, isSd, isTd, noneB, g0, g1, g2, g3, g4, g5, g6, g7, g8, g9, g10, g11, g13, g14, g15, g16, g17, g18, g19, g20, g21, g22, g23, intO]
      refine ⟨st, ps, ms, rfl, ⟨gs, ⟨hps, by omega⟩, ⟨hms, by omega⟩⟩, rfl, ?_⟩
      simp only [bodyCt, wE_v, wE_g, wE_k, wE_op, wE_neg, wE_cmp, wE_isN, wE_ch, wE_nt, wE_bo, wE_ife, wE_tup, wE_lst, wE_dnew, wE_ix, wE_sl, wE_call, wE_bf, wE_mut, wE_comp, onEn_val, onEn_own, onEn_bor, res_val, res_obj, res_slot, frz_val, frz_obj, frz_slot, retR_val, retR_obj, retR_slot, objAt_w, isObj_w, isLst_w, putOb_w, agEn_d, agEn_s, setV_w, setEn_no, setEn_val, setEn_own, isNEn_d, isNEn_o, asB_b, onVal_v, setR_val, setR_obj, setR_slot, setRs_nil, setRs_cons, setVs_nil, setVs_cons, asgT_one, asgT_tup, extS_l, opt_s, wFs_nil, wFs_cons, wOs_nil, wOs_cons, wAs_nil, wAs_cons, wAs_bor, wBo_one, wBo_cons, wPart_nil, wPart_one, wCond_nil, wCond_one, wIt_rng1, wIt_rng2, wIt_seq, onInt_i, onSeq_l, onSeq_t, onTup_t, wSs_nil, wSs_cons, wS_set, wS_setT, wS_par, wS_setI, wS_aug, augEn_val, augEn_own, wS_augI, wS_ex, wS_ret, wS_retN, wS_ifs, wS_fo, wS_brk, wS_pas, ix_t, ix_l, ix_o, sl_t, sl_l, sl_o, o_add, o_sub, o_mul, o_fdiv, o_mod, o_pow, o_addT, o_addDD, o_addDO, o_addOD, o_addOO, neg_i, c_lt, c_le, c_gt, c_ge, c_eqI, c_neI, f_lenT, f_lenL, f_lenO, f_int, f_intB, f_abs, f_max2, f_min2, f_tupT, f_tupL, f_tupO, f_lstT, f_lstL, f_lstO, f_isB, f_isI, f_isS, f_isT, f_sumL, f_sumT, f_maxO, f_minO, f_maxT, f_minT, f_sortO, f_setO, mm_app, mm_rev, mm_pop, si_l, get_0, get_s, resEn_own, resEn_bor, resEn_val, frzEn_own, frzEn_val, retEn_own, retEn_val, objEn_own, objEn_bor, isObEn_own, isObEn_bor, isLsEn_own, isLsEn_bor, putEn_own, putEn_bor, agEn_own, agEn_bor, ag_nil, ag_one, true_and, and_true, vB, List.replicate, List.length_cons, List.length_nil, List.cons_append, List.nil_append, List.set, List.map_cons, List.map_nil, agSlots, putObs, notSlot_val, notSlot_obj, List.all_cons, List.all_nil, Bool.and_self, Bool.and_true, outsFrom, obOf_bor, obOf_own, wipeE, back, isBd, isId, isSd, isTd, noneB, g0, g1, g2, g3, g4, g5, g6, g7, g8, g9, g10, g11, g13, g14, g15, g16, g17, g18, g19, g20, g21, g22, g23, intO, Bool.not_true, Bool.false_eq_true, if_false]
      refine ⟨l11, 9, rfl, by decide, fun nw l12 q0 q1 => ⟨rfl, ?_⟩⟩
      simp only [bodyCt, wE_v, wE_g, wE_k, wE_op, wE_neg, wE_cmp, wE_isN, wE_ch, wE_nt, wE_bo, wE_ife, wE_tup, wE_lst, wE_dnew, wE_ix, wE_sl, wE_call, wE_bf, wE_mut, wE_comp, onEn_val, onEn_own, onEn_bor, res_val, res_obj, res_slot, frz_val, frz_obj, frz_slot, retR_val, retR_obj, retR_slot, objAt_w, isObj_w, isLst_w, putOb_w, agEn_d, agEn_s, setV_w, setEn_no, setEn_val, setEn_own, isNEn_d, isNEn_o, asB_b, onVal_v, setR_val, setR_obj, setR_slot, setRs_nil, setRs_cons, setVs_nil, setVs_cons, asgT_one, asgT_tup, extS_l, opt_s, wFs_nil, wFs_cons, wOs_nil, wOs_cons, wAs_nil, wAs_cons, wAs_bor, wBo_one, wBo_cons, wPart_nil, wPart_one, wCond_nil, wCond_one, wIt_rng1, wIt_rng2, wIt_seq, onInt_i, onSeq_l, onSeq_t, onTup_t, wSs_nil, wSs_cons, wS_set, wS_setT, wS_par, wS_setI, wS_aug, augEn_val, augEn_own, wS_augI, wS_ex, wS_ret, wS_retN, wS_ifs, wS_fo, wS_brk, wS_pas, ix_t, ix_l, ix_o, sl_t, sl_l, sl_o, o_add, o_sub, o_mul, o_fdiv, o_mod, o_pow, o_addT, o_addDD, o_addDO, o_addOD, o_addOO, neg_i, c_lt, c_le, c_gt, c_ge, c_eqI, c_neI, f_lenT, f_lenL, f_lenO, f_int, f_intB, f_abs, f_max2, f_min2, f_tupT, f_tupL, f_tupO, f_lstT, f_lstL, f_lstO, f_isB, f_isI, f_isS, f_isT, f_sumL, f_sumT, f_maxO, f_minO, f_maxT, f_minT, f_sortO, f_setO, mm_app, mm_rev, mm_pop, si_l, get_0, get_s, resEn_own, resEn_bor, resEn_val, frzEn_own, frzEn_val, retEn_own, retEn_val, objEn_own, objEn_bor, isObEn_own, isObEn_bor, isLsEn_own, isLsEn_bor, putEn_own, putEn_bor, agEn_own, agEn_bor, ag_nil, ag_one, true_and, and_true, vB, List.replicate, List.length_cons, List.length_nil, List.cons_append, List.nil_append, List.set, List.map_cons, List.map_nil, agSlots, putObs, notSlot_val, notSlot_obj, List.all_cons, List.all_nil, Bool.and_self, Bool.and_true, outsFrom, obOf_bor, obOf_own, wipeE, back, isBd, isId, isSd, isTd, noneB, g0, g1, g2, g3, g4, g5, g6, g7, g8, g9, g10, g11, g13, g14, g15, g16, g17, g18, g19, g20, g21, g22, g23, intO]
      refine ⟨⟨⟨by omega, by omega⟩, by omega⟩, noObj_one h12, ?_⟩
      refine wComp_ind0 (fun i : Nat => .int (0 + (i : Nat))) (fun as acc ρ => ∃ l ws, ρ = [.val (.list (ns.map .int)), .own (.lst (List.map PyData.int l)), .val (.int scale), .val (.tuple (st.map eP)), .no, .no, .val (.tuple (ot.map eP)), .val (.int w), .val (.list ((setU ((st ++ ot).map (·.1))).map .int)), .no, .own (.lst ((bothL st ot w).map .int)), .own (.lst (List.map eM ms)), .no, .val (.tuple (List.map eP ps)), .no, .no, .no, .no, .no, .no] ∧
        acc = List.map PyData.int ws ∧ (∀ x ∈ ws, 0 ≤ x) ∧ ws.length + as.length ≤ 9) ?_ ?_ (List.range (nw - 0).toNat) _ ⟨l12, [], rfl, rfl, (fun p hp => by simp at hp), by rw [List.length_range, List.length_nil]; omega⟩
      · rintro a as acc ρ kt kf ⟨l, ws, rfl, rfl, hws, hl⟩ h1 h2
        rw [List.length_cons] at hl
        simp only [bodyCt, wE_v, wE_g, wE_k, wE_op, wE_neg, wE_cmp, wE_isN, wE_ch, wE_nt, wE_bo, wE_ife, wE_tup, wE_lst, wE_dnew, wE_ix, wE_sl, wE_call, wE_bf, wE_mut, wE_comp, onEn_val, onEn_own, onEn_bor, res_val, res_obj, res_slot, frz_val, frz_obj, frz_slot, retR_val, retR_obj, retR_slot, objAt_w, isObj_w, isLst_w, putOb_w, agEn_d, agEn_s, setV_w, setEn_no, setEn_val, setEn_own, isNEn_d, isNEn_o, asB_b, onVal_v, setR_val, setR_obj, setR_slot, setRs_nil, setRs_cons, setVs_nil, setVs_cons, asgT_one, asgT_tup, extS_l, opt_s, wFs_nil, wFs_cons, wOs_nil, wOs_cons, wAs_nil, wAs_cons, wAs_bor, wBo_one, wBo_cons, wPart_nil, wPart_one, wCond_nil, wCond_one, wIt_rng1, wIt_rng2, wIt_seq, onInt_i, onSeq_l, onSeq_t, onTup_t, wSs_nil, wSs_cons, wS_set, wS_setT, wS_par, wS_setI, wS_aug, augEn_val, augEn_own, wS_augI, wS_ex, wS_ret, wS_retN, wS_ifs, wS_fo, wS_brk, wS_pas, ix_t, ix_l, ix_o, sl_t, sl_l, sl_o, o_add, o_sub, o_mul, o_fdiv, o_mod, o_pow, o_addT, o_addDD, o_addDO, o_addOD, o_addOO, neg_i, c_lt, c_le, c_gt, c_ge, c_eqI, c_neI, f_lenT, f_lenL, f_lenO, f_int, f_intB, f_abs, f_max2, f_min2, f_tupT, f_tupL, f_tupO, f_lstT, f_lstL, f_lstO, f_isB, f_isI, f_isS, f_isT, f_sumL, f_sumT, f_maxO, f_minO, f_maxT, f_minT, f_sortO, f_setO, mm_app, mm_rev, mm_pop, si_l, get_0, get_s, resEn_own, resEn_bor, resEn_val, frzEn_own, frzEn_val, retEn_own, retEn_val, objEn_own, objEn_bor, isObEn_own, isObEn_bor, isLsEn_own, isLsEn_bor, putEn_own, putEn_bor, agEn_own, agEn_bor, ag_nil, ag_one, true_and, and_true, vB, List.replicate, List.length_cons, List.length_nil, List.cons_append, List.nil_append, List.set, List.map_cons, List.map_nil, agSlots, putObs, notSlot_val, notSlot_obj, List.all_cons, List.all_nil, Bool.and_self, Bool.and_true, outsFrom, obOf_bor, obOf_own, wipeE, back, isBd, isId, isSd, isTd, noneB, g0, g1, g2, g3, g4, g5, g6, g7, g8, g9, g10, g11, g13, g14, g15, g16, g17, g18, g19, g20, g21, g22, g23, intO, if_true]
        refine ⟨l, 60, rfl, by decide, fun x1 m1 x10 x11 => ⟨rfl, ?_⟩⟩
        simp only [bodyCt, wE_v, wE_g, wE_k, wE_op, wE_neg, wE_cmp, wE_isN, wE_ch, wE_nt, wE_bo, wE_ife, wE_tup, wE_lst, wE_dnew, wE_ix, wE_sl, wE_call, wE_bf, wE_mut, wE_comp, onEn_val, onEn_own, onEn_bor, res_val, res_obj, res_slot, frz_val, frz_obj, frz_slot, retR_val, retR_obj, retR_slot, objAt_w, isObj_w, isLst_w, putOb_w, agEn_d, agEn_s, setV_w, setEn_no, setEn_val, setEn_own, isNEn_d, isNEn_o, asB_b, onVal_v, setR_val, setR_obj, setR_slot, setRs_nil, setRs_cons, setVs_nil, setVs_cons, asgT_one, asgT_tup, extS_l, opt_s, wFs_nil, wFs_cons, wOs_nil, wOs_cons, wAs_nil, wAs_cons, wAs_bor, wBo_one, wBo_cons, wPart_nil, wPart_one, wCond_nil, wCond_one, wIt_rng1, wIt_rng2, wIt_seq, onInt_i, onSeq_l, onSeq_t, onTup_t, wSs_nil, wSs_cons, wS_set, wS_setT, wS_par, wS_setI, wS_aug, augEn_val, augEn_own, wS_augI, wS_ex, wS_ret, wS_retN, wS_ifs, wS_fo, wS_brk, wS_pas, ix_t, ix_l, ix_o, sl_t, sl_l, sl_o, o_add, o_sub, o_mul, o_fdiv, o_mod, o_pow, o_addT, o_addDD, o_addDO, o_addOD, o_addOO, neg_i, c_lt, c_le, c_gt, c_ge, c_eqI, c_neI, f_lenT, f_lenL, f_lenO, f_int, f_intB, f_abs, f_max2, f_min2, f_tupT, f_tupL, f_tupO, f_lstT, f_lstL, f_lstO, f_isB, f_isI, f_isS, f_isT, f_sumL, f_sumT, f_maxO, f_minO, f_maxT, f_minT, f_sortO, f_setO, mm_app, mm_rev, mm_pop, si_l, get_0, get_s, resEn_own, resEn_bor, resEn_val, frzEn_own, frzEn_val, retEn_own, retEn_val, objEn_own, objEn_bor, isObEn_own, isObEn_bor, isLsEn_own, isLsEn_bor, putEn_own, putEn_bor, agEn_own, agEn_bor, ag_nil, ag_one, true_and, and_true, vB, List.replicate, List.length_cons, List.length_nil, List.cons_append, List.nil_append, List.set, List.map_cons, List.map_nil, agSlots, putObs, notSlot_val, notSlot_obj, List.all_cons, List.all_nil, Bool.and_self, Bool.and_true, outsFrom, obOf_bor, obOf_own, wipeE, back, isBd, isId, isSd, isTd, noneB, g0, g1, g2, g3, g4, g5, g6, g7, g8, g9, g10, g11, g13, g14, g15, g16, g17, g18, g19, g20, g21, g22, g23, intO]
        refine h1 _ _ ⟨m1, ws ++ [x1], rfl, by rw [List.map_append]; rfl, fun p hp => ?_, by rw [List.length_append, List.length_singleton]; omega⟩
        rcases List.mem_append.mp hp with e | e
        · exact hws p e
        · rw [List.mem_singleton] at e
          subst e
          exact x10
      rintro acc ρ ⟨l13, ws, rfl, rfl, hws, hwl⟩
      rw [List.length_nil] at hwl
      simp only [bodyCt, wE_v, wE_g, wE_k, wE_op, wE_neg, wE_cmp, wE_isN, wE_ch, wE_nt, wE_bo, wE_ife, wE_tup, wE_lst, wE_dnew, wE_ix, wE_sl, wE_call, wE_bf, wE_mut, wE_comp, onEn_val, onEn_own, onEn_bor, res_val, res_obj, res_slot, frz_val, frz_obj, frz_slot, retR_val, retR_obj, retR_slot, objAt_w, isObj_w, isLst_w, putOb_w, agEn_d, agEn_s, setV_w, setEn_no, setEn_val, setEn_own, isNEn_d, isNEn_o, asB_b, onVal_v, setR_val, setR_obj, setR_slot, setRs_nil, setRs_cons, setVs_nil, setVs_cons, asgT_one, asgT_tup, extS_l, opt_s, wFs_nil, wFs_cons, wOs_nil, wOs_cons, wAs_nil, wAs_cons, wAs_bor, wBo_one, wBo_cons, wPart_nil, wPart_one, wCond_nil, wCond_one, wIt_rng1, wIt_rng2, wIt_seq, onInt_i, onSeq_l, onSeq_t, onTup_t, wSs_nil, wSs_cons, wS_set, wS_setT, wS_par, wS_setI, wS_aug, augEn_val, augEn_own, wS_augI, wS_ex, wS_ret, wS_retN, wS_ifs, wS_fo, wS_brk, wS_pas, ix_t, ix_l, ix_o, sl_t, sl_l, sl_o, o_add, o_sub, o_mul, o_fdiv, o_mod, o_pow, o_addT, o_addDD, o_addDO, o_addOD, o_addOO, neg_i, c_lt, c_le, c_gt, c_ge, c_eqI, c_neI, f_lenT, f_lenL, f_lenO, f_int, f_intB, f_abs, f_max2, f_min2, f_tupT, f_tupL, f_tupO, f_lstT, f_lstL, f_lstO, f_isB, f_isI, f_isS, f_isT, f_sumL, f_sumT, f_maxO, f_minO, f_maxT, f_minT, f_sortO, f_setO, mm_app, mm_rev, mm_pop, si_l, get_0, get_s, resEn_own, resEn_bor, resEn_val, frzEn_own, frzEn_val, retEn_own, retEn_val, objEn_own, objEn_bor, isObEn_own, isObEn_bor, isLsEn_own, isLsEn_bor, putEn_own, putEn_bor, agEn_own, agEn_bor, ag_nil, ag_one, true_and, and_true, vB, List.replicate, List.length_cons, List.length_nil, List.cons_append, List.nil_append, List.set, List.map_cons, List.map_nil, agSlots, putObs, notSlot_val, notSlot_obj, List.all_cons, List.all_nil, Bool.and_self, Bool.and_true, outsFrom, obOf_bor, obOf_own, wipeE, back, isBd, isId, isSd, isTd, noneB, g0, g1, g2, g3, g4, g5, g6, g7, g8, g9, g10, g11, g13, g14, g15, g16, g17, g18, g19, g20, g21, g22, g23, intO]
      refine ⟨l13, 200, rfl, by decide, fun mi l14 mi0 mi1 => ⟨rfl, ?_⟩⟩
      simp only [bodyCt, wE_v, wE_g, wE_k, wE_op, wE_neg, wE_cmp, wE_isN, wE_ch, wE_nt, wE_bo, wE_ife, wE_tup, wE_lst, wE_dnew, wE_ix, wE_sl, wE_call, wE_bf, wE_mut, wE_comp, onEn_val, onEn_own, onEn_bor, res_val, res_obj, res_slot, frz_val, frz_obj, frz_slot, retR_val, retR_obj, retR_slot, objAt_w, isObj_w, isLst_w, putOb_w, agEn_d, agEn_s, setV_w, setEn_no, setEn_val, setEn_own, isNEn_d, isNEn_o, asB_b, onVal_v, setR_val, setR_obj, setR_slot, setRs_nil, setRs_cons, setVs_nil, setVs_cons, asgT_one, asgT_tup, extS_l, opt_s, wFs_nil, wFs_cons, wOs_nil, wOs_cons, wAs_nil, wAs_cons, wAs_bor, wBo_one, wBo_cons, wPart_nil, wPart_one, wCond_nil, wCond_one, wIt_rng1, wIt_rng2, wIt_seq, onInt_i, onSeq_l, onSeq_t, onTup_t, wSs_nil, wSs_cons, wS_set, wS_setT, wS_par, wS_setI, wS_aug, augEn_val, augEn_own, wS_augI, wS_ex, wS_ret, wS_retN, wS_ifs, wS_fo, wS_brk, wS_pas, ix_t, ix_l, ix_o, sl_t, sl_l, sl_o, o_add, o_sub, o_mul, o_fdiv, o_mod, o_pow, o_addT, o_addDD, o_addDO, o_addOD, o_addOO, neg_i, c_lt, c_le, c_gt, c_ge, c_eqI, c_neI, f_lenT, f_lenL, f_lenO, f_int, f_intB, f_abs, f_max2, f_min2, f_tupT, f_tupL, f_tupO, f_lstT, f_lstL, f_lstO, f_isB, f_isI, f_isS, f_isT, f_sumL, f_sumT, f_maxO, f_minO, f_maxT, f_minT, f_sortO, f_setO, mm_app, mm_rev, mm_pop, si_l, get_0, get_s, resEn_own, resEn_bor, resEn_val, frzEn_own, frzEn_val, retEn_own, retEn_val, objEn_own, objEn_bor, isObEn_own, isObEn_bor, isLsEn_own, isLsEn_bor, putEn_own, putEn_bor, agEn_own, agEn_bor, ag_nil, ag_one, true_and, and_true, vB, List.replicate, List.length_cons, List.length_nil, List.cons_append, List.nil_append, List.set, List.map_cons, List.map_nil, agSlots, putObs, notSlot_val, notSlot_obj, List.all_cons, List.all_nil, Bool.and_self, Bool.and_true, outsFrom, obOf_bor, obOf_own, wipeE, back, isBd, isId, isSd, isTd, noneB, g0, g1, g2, g3, g4, g5, g6, g7, g8, g9, g10, g11, g13, g14, g15, g16, g17, g18, g19, g20, g21, g22, g23, intO, List.length_map]
      refine ⟨⟨⟨by omega, by omega⟩, by omega⟩, by simp [noObj, Ev.get], ?_⟩
      refine wComp_pure (fun i : Nat => .int (0 + (i : Nat))) (fun i : Nat => ((if (ws.take i).sum ≤ mi then some (i : Int) else none : Option Int)).map PyData.int) (List.range (((ws.length : Nat) : Int) + 1 - 0).toNat) _ (fun a _ kt kf h1 h2 => ?_) ?_
      · simp only [bodyCt, wE_v, wE_g, wE_k, wE_op, wE_neg, wE_cmp, wE_isN, wE_ch, wE_nt, wE_bo, wE_ife, wE_tup, wE_lst, wE_dnew, wE_ix, wE_sl, wE_call, wE_bf, wE_mut, wE_comp, onEn_val, onEn_own, onEn_bor, res_val, res_obj, res_slot, frz_val, frz_obj, frz_slot, retR_val, retR_obj, retR_slot, objAt_w, isObj_w, isLst_w, putOb_w, agEn_d, agEn_s, setV_w, setEn_no, setEn_val, setEn_own, isNEn_d, isNEn_o, asB_b, onVal_v, setR_val, setR_obj, setR_slot, setRs_nil, setRs_cons, setVs_nil, setVs_cons, asgT_one, asgT_tup, extS_l, opt_s, wFs_nil, wFs_cons, wOs_nil, wOs_cons, wAs_nil, wAs_cons, wAs_bor, wBo_one, wBo_cons, wPart_nil, wPart_one, wCond_nil, wCond_one, wIt_rng1, wIt_rng2, wIt_seq, onInt_i, onSeq_l, onSeq_t, onTup_t, wSs_nil, wSs_cons, wS_set, wS_setT, wS_par, wS_setI, wS_aug, augEn_val, augEn_own, wS_augI, wS_ex, wS_ret, wS_retN, wS_ifs, wS_fo, wS_brk, wS_pas, ix_t, ix_l, ix_o, sl_t, sl_l, sl_o, o_add, o_sub, o_mul, o_fdiv, o_mod, o_pow, o_addT, o_addDD, o_addDO, o_addOD, o_addOO, neg_i, c_lt, c_le, c_gt, c_ge, c_eqI, c_neI, f_lenT, f_lenL, f_lenO, f_int, f_intB, f_abs, f_max2, f_min2, f_tupT, f_tupL, f_tupO, f_lstT, f_lstL, f_lstO, f_isB, f_isI, f_isS, f_isT, f_sumL, f_sumT, f_maxO, f_minO, f_maxT, f_minT, f_sortO, f_setO, mm_app, mm_rev, mm_pop, si_l, get_0, get_s, resEn_own, resEn_bor, resEn_val, frzEn_own, frzEn_val, retEn_own, retEn_val, objEn_own, objEn_bor, isObEn_own, isObEn_bor, isLsEn_own, isLsEn_bor, putEn_own, putEn_bor, agEn_own, agEn_bor, ag_nil, ag_one, true_and, and_true, vB, List.replicate, List.length_cons, List.length_nil, List.cons_append, List.nil_append, List.set, List.map_cons, List.map_nil, agSlots, putObs, notSlot_val, notSlot_obj, List.all_cons, List.all_nil, Bool.and_self, Bool.and_true, outsFrom, obOf_bor, obOf_own, wipeE, back, isBd, isId, isSd, isTd, noneB, g0, g1, g2, g3, g4, g5, g6, g7, g8, g9, g10, g11, g13, g14, g15, g16, g17, g18, g19, g20, g21, g22, g23, cut_take]
        by_cases c : (ws.take a).sum ≤ mi
        · simp only [c, decide_true, if_true, bodyCt, wE_v, wE_g, wE_k, wE_op, wE_neg, wE_cmp, wE_isN, wE_ch, wE_nt, wE_bo, wE_ife, wE_tup, wE_lst, wE_dnew, wE_ix, wE_sl, wE_call, wE_bf, wE_mut, wE_comp, onEn_val, onEn_own, onEn_bor, res_val, res_obj, res_slot, frz_val, frz_obj, frz_slot, retR_val, retR_obj, retR_slot, objAt_w, isObj_w, isLst_w, putOb_w, agEn_d, agEn_s, setV_w, setEn_no, setEn_val, setEn_own, isNEn_d, isNEn_o, asB_b, onVal_v, setR_val, setR_obj, setR_slot, setRs_nil, setRs_cons, setVs_nil, setVs_cons, asgT_one, asgT_tup, extS_l, opt_s, wFs_nil, wFs_cons, wOs_nil, wOs_cons, wAs_nil, wAs_cons, wAs_bor, wBo_one, wBo_cons, wPart_nil, wPart_one, wCond_nil, wCond_one, wIt_rng1, wIt_rng2, wIt_seq, onInt_i, onSeq_l, onSeq_t, onTup_t, wSs_nil, wSs_cons, wS_set, wS_setT, wS_par, wS_setI, wS_aug, augEn_val, augEn_own, wS_augI, wS_ex, wS_ret, wS_retN, wS_ifs, wS_fo, wS_brk, wS_pas, ix_t, ix_l, ix_o, sl_t, sl_l, sl_o, o_add, o_sub, o_mul, o_fdiv, o_mod, o_pow, o_addT, o_addDD, o_addDO, o_addOD, o_addOO, neg_i, c_lt, c_le, c_gt, c_ge, c_eqI, c_neI, f_lenT, f_lenL, f_lenO, f_int, f_intB, f_abs, f_max2, f_min2, f_tupT, f_tupL, f_tupO, f_lstT, f_lstL, f_lstO, f_isB, f_isI, f_isS, f_isT, f_sumL, f_sumT, f_maxO, f_minO, f_maxT, f_minT, f_sortO, f_setO, mm_app, mm_rev, mm_pop, si_l, get_0, get_s, resEn_own, resEn_bor, resEn_val, frzEn_own, frzEn_val, retEn_own, retEn_val, objEn_own, objEn_bor, isObEn_own, isObEn_bor, isLsEn_own, isLsEn_bor, putEn_own, putEn_bor, agEn_own, agEn_bor, ag_nil, ag_one, true_and, and_true, vB, List.replicate, List.length_cons, List.length_nil, List.cons_append, List.nil_append, List.set, List.map_cons, List.map_nil, agSlots, putObs, notSlot_val, notSlot_obj, List.all_cons, List.all_nil, Bool.and_self, Bool.and_true, outsFrom, obOf_bor, obOf_own, wipeE, back, isBd, isId, isSd, isTd, noneB]
          exact h1 _ _ (by simp [c]) rfl
        · simp only [c, decide_false, if_false, Bool.false_eq_true]
          exact h2 _ (by simp [c]) rfl
      rw [fm_int, show (((ws.length : Nat) : Int) + 1 - 0).toNat = ws.length + 1 by omega, show ((List.range (ws.length + 1)).filterMap fun i => if (ws.take i).sum ≤ mi then some (i : Int) else none) = fitL ws mi from rfl]
      simp only [bodyCt, wE_v, wE_g, wE_k, wE_op, wE_neg, wE_cmp, wE_isN, wE_ch, wE_nt, wE_bo, wE_ife, wE_tup, wE_lst, wE_dnew, wE_ix, wE_sl, wE_call, wE_bf, wE_mut, wE_comp, onEn_val, onEn_own, onEn_bor, res_val, res_obj, res_slot, frz_val, frz_obj, frz_slot, retR_val, retR_obj, retR_slot, objAt_w, isObj_w, isLst_w, putOb_w, agEn_d, agEn_s, setV_w, setEn_no, setEn_val, setEn_own, isNEn_d, isNEn_o, asB_b, onVal_v, setR_val, setR_obj, setR_slot, setRs_nil, setRs_cons, setVs_nil, setVs_cons, asgT_one, asgT_tup, extS_l, opt_s, wFs_nil, wFs_cons, wOs_nil, wOs_cons, wAs_nil, wAs_cons, wAs_bor, wBo_one, wBo_cons, wPart_nil, wPart_one, wCond_nil, wCond_one, wIt_rng1, wIt_rng2, wIt_seq, onInt_i, onSeq_l, onSeq_t, onTup_t, wSs_nil, wSs_cons, wS_set, wS_setT, wS_par, wS_setI, wS_aug, augEn_val, augEn_own, wS_augI, wS_ex, wS_ret, wS_retN, wS_ifs, wS_fo, wS_brk, wS_pas, ix_t, ix_l, ix_o, sl_t, sl_l, sl_o, o_add, o_sub, o_mul, o_fdiv, o_mod, o_pow, o_addT, o_addDD, o_addDO, o_addOD, o_addOO, neg_i, c_lt, c_le, c_gt, c_ge, c_eqI, c_neI, f_lenT, f_lenL, f_lenO, f_int, f_intB, f_abs, f_max2, f_min2, f_tupT, f_tupL, f_tupO, f_lstT, f_lstL, f_lstO, f_isB, f_isI, f_isS, f_isT, f_sumL, f_sumT, f_maxO, f_minO, f_maxT, f_minT, f_sortO, f_setO, mm_app, mm_rev, mm_pop, si_l, get_0, get_s, resEn_own, resEn_bor, resEn_val, frzEn_own, frzEn_val, retEn_own, retEn_val, objEn_own, objEn_bor, isObEn_own, isObEn_bor, isLsEn_own, isLsEn_bor, putEn_own, putEn_bor, agEn_own, agEn_bor, ag_nil, ag_one, true_and, and_true, vB, List.replicate, List.length_cons, List.length_nil, List.cons_append, List.nil_append, List.set, List.map_cons, List.map_nil, agSlots, putObs, notSlot_val, notSlot_obj, List.all_cons, List.all_nil, Bool.and_self, Bool.and_true, outsFrom, obOf_bor, obOf_own, wipeE, back, isBd, isId, isSd, isTd, noneB, g0, g1, g2, g3, g4, g5, g6, g7, g8, g9, g10, g11, g13, g14, g15, g16, g17, g18, g19, g20, g21, g22, g23]
      refine ⟨mi, ws, rfl, rfl, ?_⟩
      simp only [bodyCt, wE_v, wE_g, wE_k, wE_op, wE_neg, wE_cmp, wE_isN, wE_ch, wE_nt, wE_bo, wE_ife, wE_tup, wE_lst, wE_dnew, wE_ix, wE_sl, wE_call, wE_bf, wE_mut, wE_comp, onEn_val, onEn_own, onEn_bor, res_val, res_obj, res_slot, frz_val, frz_obj, frz_slot, retR_val, retR_obj, retR_slot, objAt_w, isObj_w, isLst_w, putOb_w, agEn_d, agEn_s, setV_w, setEn_no, setEn_val, setEn_own, isNEn_d, isNEn_o, asB_b, onVal_v, setR_val, setR_obj, setR_slot, setRs_nil, setRs_cons, setVs_nil, setVs_cons, asgT_one, asgT_tup, extS_l, opt_s, wFs_nil, wFs_cons, wOs_nil, wOs_cons, wAs_nil, wAs_cons, wAs_bor, wBo_one, wBo_cons, wPart_nil, wPart_one, wCond_nil, wCond_one, wIt_rng1, wIt_rng2, wIt_seq, onInt_i, onSeq_l, onSeq_t, onTup_t, wSs_nil, wSs_cons, wS_set, wS_setT, wS_par, wS_setI, wS_aug, augEn_val, augEn_own, wS_augI, wS_ex, wS_ret, wS_retN, wS_ifs, wS_fo, wS_brk, wS_pas, ix_t, ix_l, ix_o, sl_t, sl_l, sl_o, o_add, o_sub, o_mul, o_fdiv, o_mod, o_pow, o_addT, o_addDD, o_addDO, o_addOD, o_addOO, neg_i, c_lt, c_le, c_gt, c_ge, c_eqI, c_neI, f_lenT, f_lenL, f_lenO, f_int, f_intB, f_abs, f_max2, f_min2, f_tupT, f_tupL, f_tupO, f_lstT, f_lstL, f_lstO, f_isB, f_isI, f_isS, f_isT, f_sumL, f_sumT, f_maxO, f_minO, f_maxT, f_minT, f_sortO, f_setO, mm_app, mm_rev, mm_pop, si_l, get_0, get_s, resEn_own, resEn_bor, resEn_val, frzEn_own, frzEn_val, retEn_own, retEn_val, objEn_own, objEn_bor, isObEn_own, isObEn_bor, isLsEn_own, isLsEn_bor, putEn_own, putEn_bor, agEn_own, agEn_bor, ag_nil, ag_one, true_and, and_true, vB, List.replicate, List.length_cons, List.length_nil, List.cons_append, List.nil_append, List.set, List.map_cons, List.map_nil, agSlots, putObs, notSlot_val, notSlot_obj, List.all_cons, List.all_nil, Bool.and_self, Bool.and_true, outsFrom, obOf_bor, obOf_own, wipeE, back, isBd, isId, isSd, isTd, noneB, g0, g1, g2, g3, g4, g5, g6, g7, g8, g9, g10, g11, g13, g14, g15, g16, g17, g18, g19, g20, g21, g22, g23, fit_last hws mi0]
      refine ⟨_, rfl, trivial, rfl, ?_⟩
      simp only [bodyCt, wE_v, wE_g, wE_k, wE_op, wE_neg, wE_cmp, wE_isN, wE_ch, wE_nt, wE_bo, wE_ife, wE_tup, wE_lst, wE_dnew, wE_ix, wE_sl, wE_call, wE_bf, wE_mut, wE_comp, onEn_val, onEn_own, onEn_bor, res_val, res_obj, res_slot, frz_val, frz_obj, frz_slot, retR_val, retR_obj, retR_slot, objAt_w, isObj_w, isLst_w, putOb_w, agEn_d, agEn_s, setV_w, setEn_no, setEn_val, setEn_own, isNEn_d, isNEn_o, asB_b, onVal_v, setR_val, setR_obj, setR_slot, setRs_nil, setRs_cons, setVs_nil, setVs_cons, asgT_one, asgT_tup, extS_l, opt_s, wFs_nil, wFs_cons, wOs_nil, wOs_cons, wAs_nil, wAs_cons, wAs_bor, wBo_one, wBo_cons, wPart_nil, wPart_one, wCond_nil, wCond_one, wIt_rng1, wIt_rng2, wIt_seq, onInt_i, onSeq_l, onSeq_t, onTup_t, wSs_nil, wSs_cons, wS_set, wS_setT, wS_par, wS_setI, wS_aug, augEn_val, augEn_own, wS_augI, wS_ex, wS_ret, wS_retN, wS_ifs, wS_fo, wS_brk, wS_pas, ix_t, ix_l, ix_o, sl_t, sl_l, sl_o, o_add, o_sub, o_mul, o_fdiv, o_mod, o_pow, o_addT, o_addDD, o_addDO, o_addOD, o_addOO, neg_i, c_lt, c_le, c_gt, c_ge, c_eqI, c_neI, f_lenT, f_lenL, f_lenO, f_int, f_intB, f_abs, f_max2, f_min2, f_tupT, f_tupL, f_tupO, f_lstT, f_lstL, f_lstO, f_isB, f_isI, f_isS, f_isT, f_sumL, f_sumT, f_maxO, f_minO, f_maxT, f_minT, f_sortO, f_setO, mm_app, mm_rev, mm_pop, si_l, get_0, get_s, resEn_own, resEn_bor, resEn_val, frzEn_own, frzEn_val, retEn_own, retEn_val, objEn_own, objEn_bor, isObEn_own, isObEn_bor, isLsEn_own, isLsEn_bor, putEn_own, putEn_bor, agEn_own, agEn_bor, ag_nil, ag_one, true_and, and_true, vB, List.replicate, List.length_cons, List.length_nil, List.cons_append, List.nil_append, List.set, List.map_cons, List.map_nil, agSlots, putObs, notSlot_val, notSlot_obj, List.all_cons, List.all_nil, Bool.and_self, Bool.and_true, outsFrom, obOf_bor, obOf_own, wipeE, back, isBd, isId, isSd, isTd, noneB, g0, g1, g2, g3, g4, g5, g6, g7, g8, g9, g10, g11, g13, g14, g15, g16, g17, g18, g19, g20, g21, g22, g23, Bool.not_true, Bool.false_eq_true, if_false]
      refine ⟨by decide, by decide, by decide, by decide, few, 5, rfl, rfl, ?_⟩
      simp only [bodyCt, wE_v, wE_g, wE_k, wE_op, wE_neg, wE_cmp, wE_isN, wE_ch, wE_nt, wE_bo, wE_ife, wE_tup, wE_lst, wE_dnew, wE_ix, wE_sl, wE_call, wE_bf, wE_mut, wE_comp, onEn_val, onEn_own, onEn_bor, res_val, res_obj, res_slot, frz_val, frz_obj, frz_slot, retR_val, retR_obj, retR_slot, objAt_w, isObj_w, isLst_w, putOb_w, agEn_d, agEn_s, setV_w, setEn_no, setEn_val, setEn_own, isNEn_d, isNEn_o, asB_b, onVal_v, setR_val, setR_obj, setR_slot, setRs_nil, setRs_cons, setVs_nil, setVs_cons, asgT_one, asgT_tup, extS_l, opt_s, wFs_nil, wFs_cons, wOs_nil, wOs_cons, wAs_nil, wAs_cons, wAs_bor, wBo_one, wBo_cons, wPart_nil, wPart_one, wCond_nil, wCond_one, wIt_rng1, wIt_rng2, wIt_seq, onInt_i, onSeq_l, onSeq_t, onTup_t, wSs_nil, wSs_cons, wS_set, wS_setT, wS_par, wS_setI, wS_aug, augEn_val, augEn_own, wS_augI, wS_ex, wS_ret, wS_retN, wS_ifs, wS_fo, wS_brk, wS_pas, ix_t, ix_l, ix_o, sl_t, sl_l, sl_o, o_add, o_sub, o_mul, o_fdiv, o_mod, o_pow, o_addT, o_addDD, o_addDO, o_addOD, o_addOO, neg_i, c_lt, c_le, c_gt, c_ge, c_eqI, c_neI, f_lenT, f_lenL, f_lenO, f_int, f_intB, f_abs, f_max2, f_min2, f_tupT, f_tupL, f_tupO, f_lstT, f_lstL, f_lstO, f_isB, f_isI, f_isS, f_isT, f_sumL, f_sumT, f_maxO, f_minO, f_maxT, f_minT, f_sortO, f_setO, mm_app, mm_rev, mm_pop, si_l, get_0, get_s, resEn_own, resEn_bor, resEn_val, frzEn_own, frzEn_val, retEn_own, retEn_val, objEn_own, objEn_bor, isObEn_own, isObEn_bor, isLsEn_own, isLsEn_bor, putEn_own, putEn_bor, agEn_own, agEn_bor, ag_nil, ag_one, true_and, and_true, vB, List.replicate, List.length_cons, List.length_nil, List.cons_append, List.nil_append, List.set, List.map_cons, List.map_nil, agSlots, putObs, notSlot_val, notSlot_obj, List.all_cons, List.all_nil, Bool.and_self, Bool.and_true, outsFrom, obOf_bor, obOf_own, wipeE, back, isBd, isId, isSd, isTd, noneB, g0, g1, g2, g3, g4, g5, g6, g7, g8, g9, g10, g11, g13, g14, g15, g16, g17, g18, g19, g20, g21, g22, g23, x1]
      refine ⟨_, rfl, trivial, rfl, ?_⟩
      simp only [bodyCt, wE_v, wE_g, wE_k, wE_op, wE_neg, wE_cmp, wE_isN, wE_ch, wE_nt, wE_bo, wE_ife, wE_tup, wE_lst, wE_dnew, wE_ix, wE_sl, wE_call, wE_bf, wE_mut, wE_comp, onEn_val, onEn_own, onEn_bor, res_val, res_obj, res_slot, frz_val, frz_obj, frz_slot, retR_val, retR_obj, retR_slot, objAt_w, isObj_w, isLst_w, putOb_w, agEn_d, agEn_s, setV_w, setEn_no, setEn_val, setEn_own, isNEn_d, isNEn_o, asB_b, onVal_v, setR_val, setR_obj, setR_slot, setRs_nil, setRs_cons, setVs_nil, setVs_cons, asgT_one, asgT_tup, extS_l, opt_s, wFs_nil, wFs_cons, wOs_nil, wOs_cons, wAs_nil, wAs_cons, wAs_bor, wBo_one, wBo_cons, wPart_nil, wPart_one, wCond_nil, wCond_one, wIt_rng1, wIt_rng2, wIt_seq, onInt_i, onSeq_l, onSeq_t, onTup_t, wSs_nil, wSs_cons, wS_set, wS_setT, wS_par, wS_setI, wS_aug, augEn_val, augEn_own, wS_augI, wS_ex, wS_ret, wS_retN, wS_ifs, wS_fo, wS_brk, wS_pas, ix_t, ix_l, ix_o, sl_t, sl_l, sl_o, o_add, o_sub, o_mul, o_fdiv, o_mod, o_pow, o_addT, o_addDD, o_addDO, o_addOD, o_addOO, neg_i, c_lt, c_le, c_gt, c_ge, c_eqI, c_neI, f_lenT, f_lenL, f_lenO, f_int, f_intB, f_abs, f_max2, f_min2, f_tupT, f_tupL, f_tupO, f_lstT, f_lstL, f_lstO, f_isB, f_isI, f_isS, f_isT, f_sumL, f_sumT, f_maxO, f_minO, f_maxT, f_minT, f_sortO, f_setO, mm_app, mm_rev, mm_pop, si_l, get_0, get_s, resEn_own, resEn_bor, resEn_val, frzEn_own, frzEn_val, retEn_own, retEn_val, objEn_own, objEn_bor, isObEn_own, isObEn_bor, isLsEn_own, isLsEn_bor, putEn_own, putEn_bor, agEn_own, agEn_bor, ag_nil, ag_one, true_and, and_true, vB, List.replicate, List.length_cons, List.length_nil, List.cons_append, List.nil_append, List.set, List.map_cons, List.map_nil, agSlots, putObs, notSlot_val, notSlot_obj, List.all_cons, List.all_nil, Bool.and_self, Bool.and_true, outsFrom, obOf_bor, obOf_own, wipeE, back, isBd, isId, isSd, isTd, noneB, g0, g1, g2, g3, g4, g5, g6, g7, g8, g9, g10, g11, g13, g14, g15, g16, g17, g18, g19, g20, g21, g22, g23, Bool.not_true, if_true]
      refine ⟨few, 6, rfl, rfl, ?_⟩
      simp only [bodyCt, wE_v, wE_g, wE_k, wE_op, wE_neg, wE_cmp, wE_isN, wE_ch, wE_nt, wE_bo, wE_ife, wE_tup, wE_lst, wE_dnew, wE_ix, wE_sl, wE_call, wE_bf, wE_mut, wE_comp, onEn_val, onEn_own, onEn_bor, res_val, res_obj, res_slot, frz_val, frz_obj, frz_slot, retR_val, retR_obj, retR_slot, objAt_w, isObj_w, isLst_w, putOb_w, agEn_d, agEn_s, setV_w, setEn_no, setEn_val, setEn_own, isNEn_d, isNEn_o, asB_b, onVal_v, setR_val, setR_obj, setR_slot, setRs_nil, setRs_cons, setVs_nil, setVs_cons, asgT_one, asgT_tup, extS_l, opt_s, wFs_nil, wFs_cons, wOs_nil, wOs_cons, wAs_nil, wAs_cons, wAs_bor, wBo_one, wBo_cons, wPart_nil, wPart_one, wCond_nil, wCond_one, wIt_rng1, wIt_rng2, wIt_seq, onInt_i, onSeq_l, onSeq_t, onTup_t, wSs_nil, wSs_cons, wS_set, wS_setT, wS_par, wS_setI, wS_aug, augEn_val, augEn_own, wS_augI, wS_ex, wS_ret, wS_retN, wS_ifs, wS_fo, wS_brk, wS_pas, ix_t, ix_l, ix_o, sl_t, sl_l, sl_o, o_add, o_sub, o_mul, o_fdiv, o_mod, o_pow, o_addT, o_addDD, o_addDO, o_addOD, o_addOO, neg_i, c_lt, c_le, c_gt, c_ge, c_eqI, c_neI, f_lenT, f_lenL, f_lenO, f_int, f_intB, f_abs, f_max2, f_min2, f_tupT, f_tupL, f_tupO, f_lstT, f_lstL, f_lstO, f_isB, f_isI, f_isS, f_isT, f_sumL, f_sumT, f_maxO, f_minO, f_maxT, f_minT, f_sortO, f_setO, mm_app, mm_rev, mm_pop, si_l, get_0, get_s, resEn_own, resEn_bor, resEn_val, frzEn_own, frzEn_val, retEn_own, retEn_val, objEn_own, objEn_bor, isObEn_own, isObEn_bor, isLsEn_own, isLsEn_bor, putEn_own, putEn_bor, agEn_own, agEn_bor, ag_nil, ag_one, true_and, and_true, vB, List.replicate, List.length_cons, List.length_nil, List.cons_append, List.nil_append, List.set, List.map_cons, List.map_nil, agSlots, putObs, notSlot_val, notSlot_obj, List.all_cons, List.all_nil, Bool.and_self, Bool.and_true, outsFrom, obOf_bor, obOf_own, wipeE, back, isBd, isId, isSd, isTd, noneB, g0, g1, g2, g3, g4, g5, g6, g7, g8, g9, g10, g11, g13, g14, g15, g16, g17, g18, g19, g20, g21, g22, g23, x2]
      refine ⟨_, rfl, trivial, rfl, ?_⟩
      simp only [bodyCt, wE_v, wE_g, wE_k, wE_op, wE_neg, wE_cmp, wE_isN, wE_ch, wE_nt, wE_bo, wE_ife, wE_tup, wE_lst, wE_dnew, wE_ix, wE_sl, wE_call, wE_bf, wE_mut, wE_comp, onEn_val, onEn_own, onEn_bor, res_val, res_obj, res_slot, frz_val, frz_obj, frz_slot, retR_val, retR_obj, retR_slot, objAt_w, isObj_w, isLst_w, putOb_w, agEn_d, agEn_s, setV_w, setEn_no, setEn_val, setEn_own, isNEn_d, isNEn_o, asB_b, onVal_v, setR_val, setR_obj, setR_slot, setRs_nil, setRs_cons, setVs_nil, setVs_cons, asgT_one, asgT_tup, extS_l, opt_s, wFs_nil, wFs_cons, wOs_nil, wOs_cons, wAs_nil, wAs_cons, wAs_bor, wBo_one, wBo_cons, wPart_nil, wPart_one, wCond_nil, wCond_one, wIt_rng1, wIt_rng2, wIt_seq, onInt_i, onSeq_l, onSeq_t, onTup_t, wSs_nil, wSs_cons, wS_set, wS_setT, wS_par, wS_setI, wS_aug, augEn_val, augEn_own, wS_augI, wS_ex, wS_ret, wS_retN, wS_ifs, wS_fo, wS_brk, wS_pas, ix_t, ix_l, ix_o, sl_t, sl_l, sl_o, o_add, o_sub, o_mul, o_fdiv, o_mod, o_pow, o_addT, o_addDD, o_addDO, o_addOD, o_addOO, neg_i, c_lt, c_le, c_gt, c_ge, c_eqI, c_neI, f_lenT, f_lenL, f_lenO, f_int, f_intB, f_abs, f_max2, f_min2, f_tupT, f_tupL, f_tupO, f_lstT, f_lstL, f_lstO, f_isB, f_isI, f_isS, f_isT, f_sumL, f_sumT, f_maxO, f_minO, f_maxT, f_minT, f_sortO, f_setO, mm_app, mm_rev, mm_pop, si_l, get_0, get_s, resEn_own, resEn_bor, resEn_val, frzEn_own, frzEn_val, retEn_own, retEn_val, objEn_own, objEn_bor, isObEn_own, isObEn_bor, isLsEn_own, isLsEn_bor, putEn_own, putEn_bor, agEn_own, agEn_bor, ag_nil, ag_one, true_and, and_true, vB, List.replicate, List.length_cons, List.length_nil, List.cons_append, List.nil_append, List.set, List.map_cons, List.map_nil, agSlots, putObs, notSlot_val, notSlot_obj, List.all_cons, List.all_nil, Bool.and_self, Bool.and_true, outsFrom, obOf_bor, obOf_own, wipeE, back, isBd, isId, isSd, isTd, noneB, g0, g1, g2, g3, g4, g5, g6, g7, g8, g9, g10, g11, g13, g14, g15, g16, g17, g18, g19, g20, g21, g22, g23, Bool.not_true, if_true]
      refine ⟨few, 14, rfl, rfl, ?_⟩
      simp only [bodyCt, wE_v, wE_g, wE_k, wE_op, wE_neg, wE_cmp, wE_isN, wE_ch, wE_nt, wE_bo, wE_ife, wE_tup, wE_lst, wE_dnew, wE_ix, wE_sl, wE_call, wE_bf, wE_mut, wE_comp, onEn_val, onEn_own, onEn_bor, res_val, res_obj, res_slot, frz_val, frz_obj, frz_slot, retR_val, retR_obj, retR_slot, objAt_w, isObj_w, isLst_w, putOb_w, agEn_d, agEn_s, setV_w, setEn_no, setEn_val, setEn_own, isNEn_d, isNEn_o, asB_b, onVal_v, setR_val, setR_obj, setR_slot, setRs_nil, setRs_cons, setVs_nil, setVs_cons, asgT_one, asgT_tup, extS_l, opt_s, wFs_nil, wFs_cons, wOs_nil, wOs_cons, wAs_nil, wAs_cons, wAs_bor, wBo_one, wBo_cons, wPart_nil, wPart_one, wCond_nil, wCond_one, wIt_rng1, wIt_rng2, wIt_seq, onInt_i, onSeq_l, onSeq_t, onTup_t, wSs_nil, wSs_cons, wS_set, wS_setT, wS_par, wS_setI, wS_aug, augEn_val, augEn_own, wS_augI, wS_ex, wS_ret, wS_retN, wS_ifs, wS_fo, wS_brk, wS_pas, ix_t, ix_l, ix_o, sl_t, sl_l, sl_o, o_add, o_sub, o_mul, o_fdiv, o_mod, o_pow, o_addT, o_addDD, o_addDO, o_addOD, o_addOO, neg_i, c_lt, c_le, c_gt, c_ge, c_eqI, c_neI, f_lenT, f_lenL, f_lenO, f_int, f_intB, f_abs, f_max2, f_min2, f_tupT, f_tupL, f_tupO, f_lstT, f_lstL, f_lstO, f_isB, f_isI, f_isS, f_isT, f_sumL, f_sumT, f_maxO, f_minO, f_maxT, f_minT, f_sortO, f_setO, mm_app, mm_rev, mm_pop, si_l, get_0, get_s, resEn_own, resEn_bor, resEn_val, frzEn_own, frzEn_val, retEn_own, retEn_val, objEn_own, objEn_bor, isObEn_own, isObEn_bor, isLsEn_own, isLsEn_bor, putEn_own, putEn_bor, agEn_own, agEn_bor, ag_nil, ag_one, true_and, and_true, vB, List.replicate, List.length_cons, List.length_nil, List.cons_append, List.nil_append, List.set, List.map_cons, List.map_nil, agSlots, putObs, notSlot_val, notSlot_obj, List.all_cons, List.all_nil, Bool.and_self, Bool.and_true, outsFrom, obOf_bor, obOf_own, wipeE, back, isBd, isId, isSd, isTd, noneB, g0, g1, g2, g3, g4, g5, g6, g7, g8, g9, g10, g11, g13, g14, g15, g16, g17, g18, g19, g20, g21, g22, g23, x3]
      refine ⟨_, rfl, trivial, rfl, ?_⟩
      simp only [bodyCt, wE_v, wE_g, wE_k, wE_op, wE_neg, wE_cmp, wE_isN, wE_ch, wE_nt, wE_bo, wE_ife, wE_tup, wE_lst, wE_dnew, wE_ix, wE_sl, wE_call, wE_bf, wE_mut, wE_comp, onEn_val, onEn_own, onEn_bor, res_val, res_obj, res_slot, frz_val, frz_obj, frz_slot, retR_val, retR_obj, retR_slot, objAt_w, isObj_w, isLst_w, putOb_w, agEn_d, agEn_s, setV_w, setEn_no, setEn_val, setEn_own, isNEn_d, isNEn_o, asB_b, onVal_v, setR_val, setR_obj, setR_slot, setRs_nil, setRs_cons, setVs_nil, setVs_cons, asgT_one, asgT_tup, extS_l, opt_s, wFs_nil, wFs_cons, wOs_nil, wOs_cons, wAs_nil, wAs_cons, wAs_bor, wBo_one, wBo_cons, wPart_nil, wPart_one, wCond_nil, wCond_one, wIt_rng1, wIt_rng2, wIt_seq, onInt_i, onSeq_l, onSeq_t, onTup_t, wSs_nil, wSs_cons, wS_set, wS_setT, wS_par, wS_setI, wS_aug, augEn_val, augEn_own, wS_augI, wS_ex, wS_ret, wS_retN, wS_ifs, wS_fo, wS_brk, wS_pas, ix_t, ix_l, ix_o, sl_t, sl_l, sl_o, o_add, o_sub, o_mul, o_fdiv, o_mod, o_pow, o_addT, o_addDD, o_addDO, o_addOD, o_addOO, neg_i, c_lt, c_le, c_gt, c_ge, c_eqI, c_neI, f_lenT, f_lenL, f_lenO, f_int, f_intB, f_abs, f_max2, f_min2, f_tupT, f_tupL, f_tupO, f_lstT, f_lstL, f_lstO, f_isB, f_isI, f_isS, f_isT, f_sumL, f_sumT, f_maxO, f_minO, f_maxT, f_minT, f_sortO, f_setO, mm_app, mm_rev, mm_pop, si_l, get_0, get_s, resEn_own, resEn_bor, resEn_val, frzEn_own, frzEn_val, retEn_own, retEn_val, objEn_own, objEn_bor, isObEn_own, isObEn_bor, isLsEn_own, isLsEn_bor, putEn_own, putEn_bor, agEn_own, agEn_bor, ag_nil, ag_one, true_and, and_true, vB, List.replicate, List.length_cons, List.length_nil, List.cons_append, List.nil_append, List.set, List.map_cons, List.map_nil, agSlots, putObs, notSlot_val, notSlot_obj, List.all_cons, List.all_nil, Bool.and_self, Bool.and_true, outsFrom, obOf_bor, obOf_own, wipeE, back, isBd, isId, isSd, isTd, noneB, g0, g1, g2, g3, g4, g5, g6, g7, g8, g9, g10, g11, g13, g14, g15, g16, g17, g18, g19, g20, g21, g22, g23, Bool.not_true, if_true]
      refine ⟨few, 12, rfl, rfl, ?_⟩
      rw [x4]
      simp only [bodyCt, wE_v, wE_g, wE_k, wE_op, wE_neg, wE_cmp, wE_isN, wE_ch, wE_nt, wE_bo, wE_ife, wE_tup, wE_lst, wE_dnew, wE_ix, wE_sl, wE_call, wE_bf, wE_mut, wE_comp, onEn_val, onEn_own, onEn_bor, res_val, res_obj, res_slot, frz_val, frz_obj, frz_slot, retR_val, retR_obj, retR_slot, objAt_w, isObj_w, isLst_w, putOb_w, agEn_d, agEn_s, setV_w, setEn_no, setEn_val, setEn_own, isNEn_d, isNEn_o, asB_b, onVal_v, setR_val, setR_obj, setR_slot, setRs_nil, setRs_cons, setVs_nil, setVs_cons, asgT_one, asgT_tup, extS_l, opt_s, wFs_nil, wFs_cons, wOs_nil, wOs_cons, wAs_nil, wAs_cons, wAs_bor, wBo_one, wBo_cons, wPart_nil, wPart_one, wCond_nil, wCond_one, wIt_rng1, wIt_rng2, wIt_seq, onInt_i, onSeq_l, onSeq_t, onTup_t, wSs_nil, wSs_cons, wS_set, wS_setT, wS_par, wS_setI, wS_aug, augEn_val, augEn_own, wS_augI, wS_ex, wS_ret, wS_retN, wS_ifs, wS_fo, wS_brk, wS_pas, ix_t, ix_l, ix_o, sl_t, sl_l, sl_o, o_add, o_sub, o_mul, o_fdiv, o_mod, o_pow, o_addT, o_addDD, o_addDO, o_addOD, o_addOO, neg_i, c_lt, c_le, c_gt, c_ge, c_eqI, c_neI, f_lenT, f_lenL, f_lenO, f_int, f_intB, f_abs, f_max2, f_min2, f_tupT, f_tupL, f_tupO, f_lstT, f_lstL, f_lstO, f_isB, f_isI, f_isS, f_isT, f_sumL, f_sumT, f_maxO, f_minO, f_maxT, f_minT, f_sortO, f_setO, mm_app, mm_rev, mm_pop, si_l, get_0, get_s, resEn_own, resEn_bor, resEn_val, frzEn_own, frzEn_val, retEn_own, retEn_val, objEn_own, objEn_bor, isObEn_own, isObEn_bor, isLsEn_own, isLsEn_bor, putEn_own, putEn_bor, agEn_own, agEn_bor, ag_nil, ag_one, true_and, and_true, vB, List.replicate, List.length_cons, List.length_nil, List.cons_append, List.nil_append, List.set, List.map_cons, List.map_nil, agSlots, putObs, notSlot_val, notSlot_obj, List.all_cons, List.all_nil, Bool.and_self, Bool.and_true, outsFrom, obOf_bor, obOf_own, wipeE, back, isBd, isId, isSd, isTd, noneB, g0, g1, g2, g3, g4, g5, g6, g7, g8, g9, g10, g11, g13, g14, g15, g16, g17, g18, g19, g20, g21, g22, g23, eO]
      refine ⟨_, rfl, trivial, rfl, ?_⟩
      simp only [bodyCt, wE_v, wE_g, wE_k, wE_op, wE_neg, wE_cmp, wE_isN, wE_ch, wE_nt, wE_bo, wE_ife, wE_tup, wE_lst, wE_dnew, wE_ix, wE_sl, wE_call, wE_bf, wE_mut, wE_comp, onEn_val, onEn_own, onEn_bor, res_val, res_obj, res_slot, frz_val, frz_obj, frz_slot, retR_val, retR_obj, retR_slot, objAt_w, isObj_w, isLst_w, putOb_w, agEn_d, agEn_s, setV_w, setEn_no, setEn_val, setEn_own, isNEn_d, isNEn_o, asB_b, onVal_v, setR_val, setR_obj, setR_slot, setRs_nil, setRs_cons, setVs_nil, setVs_cons, asgT_one, asgT_tup, extS_l, opt_s, wFs_nil, wFs_cons, wOs_nil, wOs_cons, wAs_nil, wAs_cons, wAs_bor, wBo_one, wBo_cons, wPart_nil, wPart_one, wCond_nil, wCond_one, wIt_rng1, wIt_rng2, wIt_seq, onInt_i, onSeq_l, onSeq_t, onTup_t, wSs_nil, wSs_cons, wS_set, wS_setT, wS_par, wS_setI, wS_aug, augEn_val, augEn_own, wS_augI, wS_ex, wS_ret, wS_retN, wS_ifs, wS_fo, wS_brk, wS_pas, ix_t, ix_l, ix_o, sl_t, sl_l, sl_o, o_add, o_sub, o_mul, o_fdiv, o_mod, o_pow, o_addT, o_addDD, o_addDO, o_addOD, o_addOO, neg_i, c_lt, c_le, c_gt, c_ge, c_eqI, c_neI, f_lenT, f_lenL, f_lenO, f_int, f_intB, f_abs, f_max2, f_min2, f_tupT, f_tupL, f_tupO, f_lstT, f_lstL, f_lstO, f_isB, f_isI, f_isS, f_isT, f_sumL, f_sumT, f_maxO, f_minO, f_maxT, f_minT, f_sortO, f_setO, mm_app, mm_rev, mm_pop, si_l, get_0, get_s, resEn_own, resEn_bor, resEn_val, frzEn_own, frzEn_val, retEn_own, retEn_val, objEn_own, objEn_bor, isObEn_own, isObEn_bor, isLsEn_own, isLsEn_bor, putEn_own, putEn_bor, agEn_own, agEn_bor, ag_nil, ag_one, true_and, and_true, vB, List.replicate, List.length_cons, List.length_nil, List.cons_append, List.nil_append, List.set, List.map_cons, List.map_nil, agSlots, putObs, notSlot_val, notSlot_obj, List.all_cons, List.all_nil, Bool.and_self, Bool.and_true, outsFrom, obOf_bor, obOf_own, wipeE, back, isBd, isId, isSd, isTd, noneB, g0, g1, g2, g3, g4, g5, g6, g7, g8, g9, g10, g11, g13, g14, g15, g16, g17, g18, g19, g20, g21, g22, g23, Bool.not_true, if_true]
      refine ⟨few, 21, rfl, rfl, ?_⟩
      rw [x5]
      simp only [bodyCt, wE_v, wE_g, wE_k, wE_op, wE_neg, wE_cmp, wE_isN, wE_ch, wE_nt, wE_bo, wE_ife, wE_tup, wE_lst, wE_dnew, wE_ix, wE_sl, wE_call, wE_bf, wE_mut, wE_comp, onEn_val, onEn_own, onEn_bor, res_val, res_obj, res_slot, frz_val, frz_obj, frz_slot, retR_val, retR_obj, retR_slot, objAt_w, isObj_w, isLst_w, putOb_w, agEn_d, agEn_s, setV_w, setEn_no, setEn_val, setEn_own, isNEn_d, isNEn_o, asB_b, onVal_v, setR_val, setR_obj, setR_slot, setRs_nil, setRs_cons, setVs_nil, setVs_cons, asgT_one, asgT_tup, extS_l, opt_s, wFs_nil, wFs_cons, wOs_nil, wOs_cons, wAs_nil, wAs_cons, wAs_bor, wBo_one, wBo_cons, wPart_nil, wPart_one, wCond_nil, wCond_one, wIt_rng1, wIt_rng2, wIt_seq, onInt_i, onSeq_l, onSeq_t, onTup_t, wSs_nil, wSs_cons, wS_set, wS_setT, wS_par, wS_setI, wS_aug, augEn_val, augEn_own, wS_augI, wS_ex, wS_ret, wS_retN, wS_ifs, wS_fo, wS_brk, wS_pas, ix_t, ix_l, ix_o, sl_t, sl_l, sl_o, o_add, o_sub, o_mul, o_fdiv, o_mod, o_pow, o_addT, o_addDD, o_addDO, o_addOD, o_addOO, neg_i, c_lt, c_le, c_gt, c_ge, c_eqI, c_neI, f_lenT, f_lenL, f_lenO, f_int, f_intB, f_abs, f_max2, f_min2, f_tupT, f_tupL, f_tupO, f_lstT, f_lstL, f_lstO, f_isB, f_isI, f_isS, f_isT, f_sumL, f_sumT, f_maxO, f_minO, f_maxT, f_minT, f_sortO, f_setO, mm_app, mm_rev, mm_pop, si_l, get_0, get_s, resEn_own, resEn_bor, resEn_val, frzEn_own, frzEn_val, retEn_own, retEn_val, objEn_own, objEn_bor, isObEn_own, isObEn_bor, isLsEn_own, isLsEn_bor, putEn_own, putEn_bor, agEn_own, agEn_bor, ag_nil, ag_one, true_and, and_true, vB, List.replicate, List.length_cons, List.length_nil, List.cons_append, List.nil_append, List.set, List.map_cons, List.map_nil, agSlots, putObs, notSlot_val, notSlot_obj, List.all_cons, List.all_nil, Bool.and_self, Bool.and_true, outsFrom, obOf_bor, obOf_own, wipeE, back, isBd, isId, isSd, isTd, noneB, g0, g1, g2, g3, g4, g5, g6, g7, g8, g9, g10, g11, g13, g14, g15, g16, g17, g18, g19, g20, g21, g22, g23, eO, if_true, Bool.not_true, Bool.false_eq_true, if_false]
      refine ⟨by decide, by decide, few, (3, 4), (0, 5), 20, rfl, ⟨good_few, by decide, by decide⟩, rfl, ?_⟩
      simp only [bodyCt, wE_v, wE_g, wE_k, wE_op, wE_neg, wE_cmp, wE_isN, wE_ch, wE_nt, wE_bo, wE_ife, wE_tup, wE_lst, wE_dnew, wE_ix, wE_sl, wE_call, wE_bf, wE_mut, wE_comp, onEn_val, onEn_own, onEn_bor, res_val, res_obj, res_slot, frz_val, frz_obj, frz_slot, retR_val, retR_obj, retR_slot, objAt_w, isObj_w, isLst_w, putOb_w, agEn_d, agEn_s, setV_w, setEn_no, setEn_val, setEn_own, isNEn_d, isNEn_o, asB_b, onVal_v, setR_val, setR_obj, setR_slot, setRs_nil, setRs_cons, setVs_nil, setVs_cons, asgT_one, asgT_tup, extS_l, opt_s, wFs_nil, wFs_cons, wOs_nil, wOs_cons, wAs_nil, wAs_cons, wAs_bor, wBo_one, wBo_cons, wPart_nil, wPart_one, wCond_nil, wCond_one, wIt_rng1, wIt_rng2, wIt_seq, onInt_i, onSeq_l, onSeq_t, onTup_t, wSs_nil, wSs_cons, wS_set, wS_setT, wS_par, wS_setI, wS_aug, augEn_val, augEn_own, wS_augI, wS_ex, wS_ret, wS_retN, wS_ifs, wS_fo, wS_brk, wS_pas, ix_t, ix_l, ix_o, sl_t, sl_l, sl_o, o_add, o_sub, o_mul, o_fdiv, o_mod, o_pow, o_addT, o_addDD, o_addDO, o_addOD, o_addOO, neg_i, c_lt, c_le, c_gt, c_ge, c_eqI, c_neI, f_lenT, f_lenL, f_lenO, f_int, f_intB, f_abs, f_max2, f_min2, f_tupT, f_tupL, f_tupO, f_lstT, f_lstL, f_lstO, f_isB, f_isI, f_isS, f_isT, f_sumL, f_sumT, f_maxO, f_minO, f_maxT, f_minT, f_sortO, f_setO, mm_app, mm_rev, mm_pop, si_l, get_0, get_s, resEn_own, resEn_bor, resEn_val, frzEn_own, frzEn_val, retEn_own, retEn_val, objEn_own, objEn_bor, isObEn_own, isObEn_bor, isLsEn_own, isLsEn_bor, putEn_own, putEn_bor, agEn_own, agEn_bor, ag_nil, ag_one, true_and, and_true, vB, List.replicate, List.length_cons, List.length_nil, List.cons_append, List.nil_append, List.set, List.map_cons, List.map_nil, agSlots, putObs, notSlot_val, notSlot_obj, List.all_cons, List.all_nil, Bool.and_self, Bool.and_true, outsFrom, obOf_bor, obOf_own, wipeE, back, isBd, isId, isSd, isTd, noneB, g0, g1, g2, g3, g4, g5, g6, g7, g8, g9, g10, g11, g13, g14, g15, g16, g17, g18, g19, g20, g21, g22, g23, x6]
      refine ⟨_, rfl, trivial, rfl, ?_⟩
      simp only [bodyCt, wE_v, wE_g, wE_k, wE_op, wE_neg, wE_cmp, wE_isN, wE_ch, wE_nt, wE_bo, wE_ife, wE_tup, wE_lst, wE_dnew, wE_ix, wE_sl, wE_call, wE_bf, wE_mut, wE_comp, onEn_val, onEn_own, onEn_bor, res_val, res_obj, res_slot, frz_val, frz_obj, frz_slot, retR_val, retR_obj, retR_slot, objAt_w, isObj_w, isLst_w, putOb_w, agEn_d, agEn_s, setV_w, setEn_no, setEn_val, setEn_own, isNEn_d, isNEn_o, asB_b, onVal_v, setR_val, setR_obj, setR_slot, setRs_nil, setRs_cons, setVs_nil, setVs_cons, asgT_one, asgT_tup, extS_l, opt_s, wFs_nil, wFs_cons, wOs_nil, wOs_cons, wAs_nil, wAs_cons, wAs_bor, wBo_one, wBo_cons, wPart_nil, wPart_one, wCond_nil, wCond_one, wIt_rng1, wIt_rng2, wIt_seq, onInt_i, onSeq_l, onSeq_t, onTup_t, wSs_nil, wSs_cons, wS_set, wS_setT, wS_par, wS_setI, wS_aug, augEn_val, augEn_own, wS_augI, wS_ex, wS_ret, wS_retN, wS_ifs, wS_fo, wS_brk, wS_pas, ix_t, ix_l, ix_o, sl_t, sl_l, sl_o, o_add, o_sub, o_mul, o_fdiv, o_mod, o_pow, o_addT, o_addDD, o_addDO, o_addOD, o_addOO, neg_i, c_lt, c_le, c_gt, c_ge, c_eqI, c_neI, f_lenT, f_lenL, f_lenO, f_int, f_intB, f_abs, f_max2, f_min2, f_tupT, f_tupL, f_tupO, f_lstT, f_lstL, f_lstO, f_isB, f_isI, f_isS, f_isT, f_sumL, f_sumT, f_maxO, f_minO, f_maxT, f_minT, f_sortO, f_setO, mm_app, mm_rev, mm_pop, si_l, get_0, get_s, resEn_own, resEn_bor, resEn_val, frzEn_own, frzEn_val, retEn_own, retEn_val, objEn_own, objEn_bor, isObEn_own, isObEn_bor, isLsEn_own, isLsEn_bor, putEn_own, putEn_bor, agEn_own, agEn_bor, ag_nil, ag_one, true_and, and_true, vB, List.replicate, List.length_cons, List.length_nil, List.cons_append, List.nil_append, List.set, List.map_cons, List.map_nil, agSlots, putObs, notSlot_val, notSlot_obj, List.all_cons, List.all_nil, Bool.and_self, Bool.and_true, outsFrom, obOf_bor, obOf_own, wipeE, back, isBd, isId, isSd, isTd, noneB, g0, g1, g2, g3, g4, g5, g6, g7, g8, g9, g10, g11, g13, g14, g15, g16, g17, g18, g19, g20, g21, g22, g23, Bool.not_true, if_true]
      refine ⟨by decide, by decide, few, (3, 4), (4, 4), 20, rfl, ⟨good_few, by decide, by decide⟩, rfl, ?_⟩
      simp only [bodyCt, wE_v, wE_g, wE_k, wE_op, wE_neg, wE_cmp, wE_isN, wE_ch, wE_nt, wE_bo, wE_ife, wE_tup, wE_lst, wE_dnew, wE_ix, wE_sl, wE_call, wE_bf, wE_mut, wE_comp, onEn_val, onEn_own, onEn_bor, res_val, res_obj, res_slot, frz_val, frz_obj, frz_slot, retR_val, retR_obj, retR_slot, objAt_w, isObj_w, isLst_w, putOb_w, agEn_d, agEn_s, setV_w, setEn_no, setEn_val, setEn_own, isNEn_d, isNEn_o, asB_b, onVal_v, setR_val, setR_obj, setR_slot, setRs_nil, setRs_cons, setVs_nil, setVs_cons, asgT_one, asgT_tup, extS_l, opt_s, wFs_nil, wFs_cons, wOs_nil, wOs_cons, wAs_nil, wAs_cons, wAs_bor, wBo_one, wBo_cons, wPart_nil, wPart_one, wCond_nil, wCond_one, wIt_rng1, wIt_rng2, wIt_seq, onInt_i, onSeq_l, onSeq_t, onTup_t, wSs_nil, wSs_cons, wS_set, wS_setT, wS_par, wS_setI, wS_aug, augEn_val, augEn_own, wS_augI, wS_ex, wS_ret, wS_retN, wS_ifs, wS_fo, wS_brk, wS_pas, ix_t, ix_l, ix_o, sl_t, sl_l, sl_o, o_add, o_sub, o_mul, o_fdiv, o_mod, o_pow, o_addT, o_addDD, o_addDO, o_addOD, o_addOO, neg_i, c_lt, c_le, c_gt, c_ge, c_eqI, c_neI, f_lenT, f_lenL, f_lenO, f_int, f_intB, f_abs, f_max2, f_min2, f_tupT, f_tupL, f_tupO, f_lstT, f_lstL, f_lstO, f_isB, f_isI, f_isS, f_isT, f_sumL, f_sumT, f_maxO, f_minO, f_maxT, f_minT, f_sortO, f_setO, mm_app, mm_rev, mm_pop, si_l, get_0, get_s, resEn_own, resEn_bor, resEn_val, frzEn_own, frzEn_val, retEn_own, retEn_val, objEn_own, objEn_bor, isObEn_own, isObEn_bor, isLsEn_own, isLsEn_bor, putEn_own, putEn_bor, agEn_own, agEn_bor, ag_nil, ag_one, true_and, and_true, vB, List.replicate, List.length_cons, List.length_nil, List.cons_append, List.nil_append, List.set, List.map_cons, List.map_nil, agSlots, putObs, notSlot_val, notSlot_obj, List.all_cons, List.all_nil, Bool.and_self, Bool.and_true, outsFrom, obOf_bor, obOf_own, wipeE, back, isBd, isId, isSd, isTd, noneB, g0, g1, g2, g3, g4, g5, g6, g7, g8, g9, g10, g11, g13, g14, g15, g16, g17, g18, g19, g20, g21, g22, g23, x7]
      refine ⟨_, rfl, trivial, rfl, ?_⟩
      simp only [bodyCt, wE_v, wE_g, wE_k, wE_op, wE_neg, wE_cmp, wE_isN, wE_ch, wE_nt, wE_bo, wE_ife, wE_tup, wE_lst, wE_dnew, wE_ix, wE_sl, wE_call, wE_bf, wE_mut, wE_comp, onEn_val, onEn_own, onEn_bor, res_val, res_obj, res_slot, frz_val, frz_obj, frz_slot, retR_val, retR_obj, retR_slot, objAt_w, isObj_w, isLst_w, putOb_w, agEn_d, agEn_s, setV_w, setEn_no, setEn_val, setEn_own, isNEn_d, isNEn_o, asB_b, onVal_v, setR_val, setR_obj, setR_slot, setRs_nil, setRs_cons, setVs_nil, setVs_cons, asgT_one, asgT_tup, extS_l, opt_s, wFs_nil, wFs_cons, wOs_nil, wOs_cons, wAs_nil, wAs_cons, wAs_bor, wBo_one, wBo_cons, wPart_nil, wPart_one, wCond_nil, wCond_one, wIt_rng1, wIt_rng2, wIt_seq, onInt_i, onSeq_l, onSeq_t, onTup_t, wSs_nil, wSs_cons, wS_set, wS_setT, wS_par, wS_setI, wS_aug, augEn_val, augEn_own, wS_augI, wS_ex, wS_ret, wS_retN, wS_ifs, wS_fo, wS_brk, wS_pas, ix_t, ix_l, ix_o, sl_t, sl_l, sl_o, o_add, o_sub, o_mul, o_fdiv, o_mod, o_pow, o_addT, o_addDD, o_addDO, o_addOD, o_addOO, neg_i, c_lt, c_le, c_gt, c_ge, c_eqI, c_neI, f_lenT, f_lenL, f_lenO, f_int, f_intB, f_abs, f_max2, f_min2, f_tupT, f_tupL, f_tupO, f_lstT, f_lstL, f_lstO, f_isB, f_isI, f_isS, f_isT, f_sumL, f_sumT, f_maxO, f_minO, f_maxT, f_minT, f_sortO, f_setO, mm_app, mm_rev, mm_pop, si_l, get_0, get_s, resEn_own, resEn_bor, resEn_val, frzEn_own, frzEn_val, retEn_own, retEn_val, objEn_own, objEn_bor, isObEn_own, isObEn_bor, isLsEn_own, isLsEn_bor, putEn_own, putEn_bor, agEn_own, agEn_bor, ag_nil, ag_one, true_and, and_true, vB, List.replicate, List.length_cons, List.length_nil, List.cons_append, List.nil_append, List.set, List.map_cons, List.map_nil, agSlots, putObs, notSlot_val, notSlot_obj, List.all_cons, List.all_nil, Bool.and_self, Bool.and_true, outsFrom, obOf_bor, obOf_own, wipeE, back, isBd, isId, isSd, isTd, noneB, g0, g1, g2, g3, g4, g5, g6, g7, g8, g9, g10, g11, g13, g14, g15, g16, g17, g18, g19, g20, g21, g22, g23, Bool.not_true, if_true]
      refine ⟨by decide, by decide, few, (6, 6), (0, 0), 12, rfl, ⟨good_few, by decide, by decide⟩, rfl, ?_⟩
      simp only [bodyCt, wE_v, wE_g, wE_k, wE_op, wE_neg, wE_cmp, wE_isN, wE_ch, wE_nt, wE_bo, wE_ife, wE_tup, wE_lst, wE_dnew, wE_ix, wE_sl, wE_call, wE_bf, wE_mut, wE_comp, onEn_val, onEn_own, onEn_bor, res_val, res_obj, res_slot, frz_val, frz_obj, frz_slot, retR_val, retR_obj, retR_slot, objAt_w, isObj_w, isLst_w, putOb_w, agEn_d, agEn_s, setV_w, setEn_no, setEn_val, setEn_own, isNEn_d, isNEn_o, asB_b, onVal_v, setR_val, setR_obj, setR_slot, setRs_nil, setRs_cons, setVs_nil, setVs_cons, asgT_one, asgT_tup, extS_l, opt_s, wFs_nil, wFs_cons, wOs_nil, wOs_cons, wAs_nil, wAs_cons, wAs_bor, wBo_one, wBo_cons, wPart_nil, wPart_one, wCond_nil, wCond_one, wIt_rng1, wIt_rng2, wIt_seq, onInt_i, onSeq_l, onSeq_t, onTup_t, wSs_nil, wSs_cons, wS_set, wS_setT, wS_par, wS_setI, wS_aug, augEn_val, augEn_own, wS_augI, wS_ex, wS_ret, wS_retN, wS_ifs, wS_fo, wS_brk, wS_pas, ix_t, ix_l, ix_o, sl_t, sl_l, sl_o, o_add, o_sub, o_mul, o_fdiv, o_mod, o_pow, o_addT, o_addDD, o_addDO, o_addOD, o_addOO, neg_i, c_lt, c_le, c_gt, c_ge, c_eqI, c_neI, f_lenT, f_lenL, f_lenO, f_int, f_intB, f_abs, f_max2, f_min2, f_tupT, f_tupL, f_tupO, f_lstT, f_lstL, f_lstO, f_isB, f_isI, f_isS, f_isT, f_sumL, f_sumT, f_maxO, f_minO, f_maxT, f_minT, f_sortO, f_setO, mm_app, mm_rev, mm_pop, si_l, get_0, get_s, resEn_own, resEn_bor, resEn_val, frzEn_own, frzEn_val, retEn_own, retEn_val, objEn_own, objEn_bor, isObEn_own, isObEn_bor, isLsEn_own, isLsEn_bor, putEn_own, putEn_bor, agEn_own, agEn_bor, ag_nil, ag_one, true_and, and_true, vB, List.replicate, List.length_cons, List.length_nil, List.cons_append, List.nil_append, List.set, List.map_cons, List.map_nil, agSlots, putObs, notSlot_val, notSlot_obj, List.all_cons, List.all_nil, Bool.and_self, Bool.and_true, outsFrom, obOf_bor, obOf_own, wipeE, back, isBd, isId, isSd, isTd, noneB, g0, g1, g2, g3, g4, g5, g6, g7, g8, g9, g10, g11, g13, g14, g15, g16, g17, g18, g19, g20, g21, g22, g23, x8]
      refine ⟨_, rfl, trivial, rfl, ?_⟩
      simp only [bodyCt, wE_v, wE_g, wE_k, wE_op, wE_neg, wE_cmp, wE_isN, wE_ch, wE_nt, wE_bo, wE_ife, wE_tup, wE_lst, wE_dnew, wE_ix, wE_sl, wE_call, wE_bf, wE_mut, wE_comp, onEn_val, onEn_own, onEn_bor, res_val, res_obj, res_slot, frz_val, frz_obj, frz_slot, retR_val, retR_obj, retR_slot, objAt_w, isObj_w, isLst_w, putOb_w, agEn_d, agEn_s, setV_w, setEn_no, setEn_val, setEn_own, isNEn_d, isNEn_o, asB_b, onVal_v, setR_val, setR_obj, setR_slot, setRs_nil, setRs_cons, setVs_nil, setVs_cons, asgT_one, asgT_tup, extS_l, opt_s, wFs_nil, wFs_cons, wOs_nil, wOs_cons, wAs_nil, wAs_cons, wAs_bor, wBo_one, wBo_cons, wPart_nil, wPart_one, wCond_nil, wCond_one, wIt_rng1, wIt_rng2, wIt_seq, onInt_i, onSeq_l, onSeq_t, onTup_t, wSs_nil, wSs_cons, wS_set, wS_setT, wS_par, wS_setI, wS_aug, augEn_val, augEn_own, wS_augI, wS_ex, wS_ret, wS_retN, wS_ifs, wS_fo, wS_brk, wS_pas, ix_t, ix_l, ix_o, sl_t, sl_l, sl_o, o_add, o_sub, o_mul, o_fdiv, o_mod, o_pow, o_addT, o_addDD, o_addDO, o_addOD, o_addOO, neg_i, c_lt, c_le, c_gt, c_ge, c_eqI, c_neI, f_lenT, f_lenL, f_lenO, f_int, f_intB, f_abs, f_max2, f_min2, f_tupT, f_tupL, f_tupO, f_lstT, f_lstL, f_lstO, f_isB, f_isI, f_isS, f_isT, f_sumL, f_sumT, f_maxO, f_minO, f_maxT, f_minT, f_sortO, f_setO, mm_app, mm_rev, mm_pop, si_l, get_0, get_s, resEn_own, resEn_bor, resEn_val, frzEn_own, frzEn_val, retEn_own, retEn_val, objEn_own, objEn_bor, isObEn_own, isObEn_bor, isLsEn_own, isLsEn_bor, putEn_own, putEn_bor, agEn_own, agEn_bor, ag_nil, ag_one, true_and, and_true, vB, List.replicate, List.length_cons, List.length_nil, List.cons_append, List.nil_append, List.set, List.map_cons, List.map_nil, agSlots, putObs, notSlot_val, notSlot_obj, List.all_cons, List.all_nil, Bool.and_self, Bool.and_true, outsFrom, obOf_bor, obOf_own, wipeE, back, isBd, isId, isSd, isTd, noneB, g0, g1, g2, g3, g4, g5, g6, g7, g8, g9, g10, g11, g13, g14, g15, g16, g17, g18, g19, g20, g21, g22, g23, Bool.not_true, Bool.false_eq_true, if_false]
      refine ⟨by decide, by decide, by decide, few, [(6, 10), (9, 4)], 16, rfl, ⟨good_few, good_69⟩, rfl, ?_⟩
      rw [x9]
      simp only [bodyCt, wE_v, wE_g, wE_k, wE_op, wE_neg, wE_cmp, wE_isN, wE_ch, wE_nt, wE_bo, wE_ife, wE_tup, wE_lst, wE_dnew, wE_ix, wE_sl, wE_call, wE_bf, wE_mut, wE_comp, onEn_val, onEn_own, onEn_bor, res_val, res_obj, res_slot, frz_val, frz_obj, frz_slot, retR_val, retR_obj, retR_slot, objAt_w, isObj_w, isLst_w, putOb_w, agEn_d, agEn_s, setV_w, setEn_no, setEn_val, setEn_own, isNEn_d, isNEn_o, asB_b, onVal_v, setR_val, setR_obj, setR_slot, setRs_nil, setRs_cons, setVs_nil, setVs_cons, asgT_one, asgT_tup, extS_l, opt_s, wFs_nil, wFs_cons, wOs_nil, wOs_cons, wAs_nil, wAs_cons, wAs_bor, wBo_one, wBo_cons, wPart_nil, wPart_one, wCond_nil, wCond_one, wIt_rng1, wIt_rng2, wIt_seq, onInt_i, onSeq_l, onSeq_t, onTup_t, wSs_nil, wSs_cons, wS_set, wS_setT, wS_par, wS_setI, wS_aug, augEn_val, augEn_own, wS_augI, wS_ex, wS_ret, wS_retN, wS_ifs, wS_fo, wS_brk, wS_pas, ix_t, ix_l, ix_o, sl_t, sl_l, sl_o, o_add, o_sub, o_mul, o_fdiv, o_mod, o_pow, o_addT, o_addDD, o_addDO, o_addOD, o_addOO, neg_i, c_lt, c_le, c_gt, c_ge, c_eqI, c_neI, f_lenT, f_lenL, f_lenO, f_int, f_intB, f_abs, f_max2, f_min2, f_tupT, f_tupL, f_tupO, f_lstT, f_lstL, f_lstO, f_isB, f_isI, f_isS, f_isT, f_sumL, f_sumT, f_maxO, f_minO, f_maxT, f_minT, f_sortO, f_setO, mm_app, mm_rev, mm_pop, si_l, get_0, get_s, resEn_own, resEn_bor, resEn_val, frzEn_own, frzEn_val, retEn_own, retEn_val, objEn_own, objEn_bor, isObEn_own, isObEn_bor, isLsEn_own, isLsEn_bor, putEn_own, putEn_bor, agEn_own, agEn_bor, ag_nil, ag_one, true_and, and_true, vB, List.replicate, List.length_cons, List.length_nil, List.cons_append, List.nil_append, List.set, List.map_cons, List.map_nil, agSlots, putObs, notSlot_val, notSlot_obj, List.all_cons, List.all_nil, Bool.and_self, Bool.and_true, outsFrom, obOf_bor, obOf_own, wipeE, back, isBd, isId, isSd, isTd, noneB, g0, g1, g2, g3, g4, g5, g6, g7, g8, g9, g10, g11, g13, g14, g15, g16, g17, g18, g19, g20, g21, g22, g23, eO]
      refine ⟨_, rfl, trivial, rfl, ?_⟩
      simp only [bodyCt, wE_v, wE_g, wE_k, wE_op, wE_neg, wE_cmp, wE_isN, wE_ch, wE_nt, wE_bo, wE_ife, wE_tup, wE_lst, wE_dnew, wE_ix, wE_sl, wE_call, wE_bf, wE_mut, wE_comp, onEn_val, onEn_own, onEn_bor, res_val, res_obj, res_slot, frz_val, frz_obj, frz_slot, retR_val, retR_obj, retR_slot, objAt_w, isObj_w, isLst_w, putOb_w, agEn_d, agEn_s, setV_w, setEn_no, setEn_val, setEn_own, isNEn_d, isNEn_o, asB_b, onVal_v, setR_val, setR_obj, setR_slot, setRs_nil, setRs_cons, setVs_nil, setVs_cons, asgT_one, asgT_tup, extS_l, opt_s, wFs_nil, wFs_cons, wOs_nil, wOs_cons, wAs_nil, wAs_cons, wAs_bor, wBo_one, wBo_cons, wPart_nil, wPart_one, wCond_nil, wCond_one, wIt_rng1, wIt_rng2, wIt_seq, onInt_i, onSeq_l, onSeq_t, onTup_t, wSs_nil, wSs_cons, wS_set, wS_setT, wS_par, wS_setI, wS_aug, augEn_val, augEn_own, wS_augI, wS_ex, wS_ret, wS_retN, wS_ifs, wS_fo, wS_brk, wS_pas, ix_t, ix_l, ix_o, sl_t, sl_l, sl_o, o_add, o_sub, o_mul, o_fdiv, o_mod, o_pow, o_addT, o_addDD, o_addDO, o_addOD, o_addOO, neg_i, c_lt, c_le, c_gt, c_ge, c_eqI, c_neI, f_lenT, f_lenL, f_lenO, f_int, f_intB, f_abs, f_max2, f_min2, f_tupT, f_tupL, f_tupO, f_lstT, f_lstL, f_lstO, f_isB, f_isI, f_isS, f_isT, f_sumL, f_sumT, f_maxO, f_minO, f_maxT, f_minT, f_sortO, f_setO, mm_app, mm_rev, mm_pop, si_l, get_0, get_s, resEn_own, resEn_bor, resEn_val, frzEn_own, frzEn_val, retEn_own, retEn_val, objEn_own, objEn_bor, isObEn_own, isObEn_bor, isLsEn_own, isLsEn_bor, putEn_own, putEn_bor, agEn_own, agEn_bor, ag_nil, ag_one, true_and, and_true, vB, List.replicate, List.length_cons, List.length_nil, List.cons_append, List.nil_append, List.set, List.map_cons, List.map_nil, agSlots, putObs, notSlot_val, notSlot_obj, List.all_cons, List.all_nil, Bool.and_self, Bool.and_true, outsFrom, obOf_bor, obOf_own, wipeE, back, isBd, isId, isSd, isTd, noneB, g0, g1, g2, g3, g4, g5, g6, g7, g8, g9, g10, g11, g13, g14, g15, g16, g17, g18, g19, g20, g21, g22, g23, Bool.not_true, if_true]
      refine ⟨by decide, 60, [30, 30, 1], rfl, rfl, ?_⟩
      simp only [bodyCt, wE_v, wE_g, wE_k, wE_op, wE_neg, wE_cmp, wE_isN, wE_ch, wE_nt, wE_bo, wE_ife, wE_tup, wE_lst, wE_dnew, wE_ix, wE_sl, wE_call, wE_bf, wE_mut, wE_comp, onEn_val, onEn_own, onEn_bor, res_val, res_obj, res_slot, frz_val, frz_obj, frz_slot, retR_val, retR_obj, retR_slot, objAt_w, isObj_w, isLst_w, putOb_w, agEn_d, agEn_s, setV_w, setEn_no, setEn_val, setEn_own, isNEn_d, isNEn_o, asB_b, onVal_v, setR_val, setR_obj, setR_slot, setRs_nil, setRs_cons, setVs_nil, setVs_cons, asgT_one, asgT_tup, extS_l, opt_s, wFs_nil, wFs_cons, wOs_nil, wOs_cons, wAs_nil, wAs_cons, wAs_bor, wBo_one, wBo_cons, wPart_nil, wPart_one, wCond_nil, wCond_one, wIt_rng1, wIt_rng2, wIt_seq, onInt_i, onSeq_l, onSeq_t, onTup_t, wSs_nil, wSs_cons, wS_set, wS_setT, wS_par, wS_setI, wS_aug, augEn_val, augEn_own, wS_augI, wS_ex, wS_ret, wS_retN, wS_ifs, wS_fo, wS_brk, wS_pas, ix_t, ix_l, ix_o, sl_t, sl_l, sl_o, o_add, o_sub, o_mul, o_fdiv, o_mod, o_pow, o_addT, o_addDD, o_addDO, o_addOD, o_addOO, neg_i, c_lt, c_le, c_gt, c_ge, c_eqI, c_neI, f_lenT, f_lenL, f_lenO, f_int, f_intB, f_abs, f_max2, f_min2, f_tupT, f_tupL, f_tupO, f_lstT, f_lstL, f_lstO, f_isB, f_isI, f_isS, f_isT, f_sumL, f_sumT, f_maxO, f_minO, f_maxT, f_minT, f_sortO, f_setO, mm_app, mm_rev, mm_pop, si_l, get_0, get_s, resEn_own, resEn_bor, resEn_val, frzEn_own, frzEn_val, retEn_own, retEn_val, objEn_own, objEn_bor, isObEn_own, isObEn_bor, isLsEn_own, isLsEn_bor, putEn_own, putEn_bor, agEn_own, agEn_bor, ag_nil, ag_one, true_and, and_true, vB, List.replicate, List.length_cons, List.length_nil, List.cons_append, List.nil_append, List.set, List.map_cons, List.map_nil, agSlots, putObs, notSlot_val, notSlot_obj, List.all_cons, List.all_nil, Bool.and_self, Bool.and_true, outsFrom, obOf_bor, obOf_own, wipeE, back, isBd, isId, isSd, isTd, noneB, g0, g1, g2, g3, g4, g5, g6, g7, g8, g9, g10, g11, g13, g14, g15, g16, g17, g18, g19, g20, g21, g22, g23, x10]
      refine ⟨_, rfl, trivial, rfl, ?_⟩
      simp only [bodyCt, wE_v, wE_g, wE_k, wE_op, wE_neg, wE_cmp, wE_isN, wE_ch, wE_nt, wE_bo, wE_ife, wE_tup, wE_lst, wE_dnew, wE_ix, wE_sl, wE_call, wE_bf, wE_mut, wE_comp, onEn_val, onEn_own, onEn_bor, res_val, res_obj, res_slot, frz_val, frz_obj, frz_slot, retR_val, retR_obj, retR_slot, objAt_w, isObj_w, isLst_w, putOb_w, agEn_d, agEn_s, setV_w, setEn_no, setEn_val, setEn_own, isNEn_d, isNEn_o, asB_b, onVal_v, setR_val, setR_obj, setR_slot, setRs_nil, setRs_cons, setVs_nil, setVs_cons, asgT_one, asgT_tup, extS_l, opt_s, wFs_nil, wFs_cons, wOs_nil, wOs_cons, wAs_nil, wAs_cons, wAs_bor, wBo_one, wBo_cons, wPart_nil, wPart_one, wCond_nil, wCond_one, wIt_rng1, wIt_rng2, wIt_seq, onInt_i, onSeq_l, onSeq_t, onTup_t, wSs_nil, wSs_cons, wS_set, wS_setT, wS_par, wS_setI, wS_aug, augEn_val, augEn_own, wS_augI, wS_ex, wS_ret, wS_retN, wS_ifs, wS_fo, wS_brk, wS_pas, ix_t, ix_l, ix_o, sl_t, sl_l, sl_o, o_add, o_sub, o_mul, o_fdiv, o_mod, o_pow, o_addT, o_addDD, o_addDO, o_addOD, o_addOO, neg_i, c_lt, c_le, c_gt, c_ge, c_eqI, c_neI, f_lenT, f_lenL, f_lenO, f_int, f_intB, f_abs, f_max2, f_min2, f_tupT, f_tupL, f_tupO, f_lstT, f_lstL, f_lstO, f_isB, f_isI, f_isS, f_isT, f_sumL, f_sumT, f_maxO, f_minO, f_maxT, f_minT, f_sortO, f_setO, mm_app, mm_rev, mm_pop, si_l, get_0, get_s, resEn_own, resEn_bor, resEn_val, frzEn_own, frzEn_val, retEn_own, retEn_val, objEn_own, objEn_bor, isObEn_own, isObEn_bor, isLsEn_own, isLsEn_bor, putEn_own, putEn_bor, agEn_own, agEn_bor, ag_nil, ag_one, true_and, and_true, vB, List.replicate, List.length_cons, List.length_nil, List.cons_append, List.nil_append, List.set, List.map_cons, List.map_nil, agSlots, putObs, notSlot_val, notSlot_obj, List.all_cons, List.all_nil, Bool.and_self, Bool.and_true, outsFrom, obOf_bor, obOf_own, wipeE, back, isBd, isId, isSd, isTd, noneB, g0, g1, g2, g3, g4, g5, g6, g7, g8, g9, g10, g11, g13, g14, g15, g16, g17, g18, g19, g20, g21, g22, g23, Bool.not_true, if_true]
      refine ⟨by decide, 60, [50, 20, 10], rfl, rfl, ?_⟩
      simp only [bodyCt, wE_v, wE_g, wE_k, wE_op, wE_neg, wE_cmp, wE_isN, wE_ch, wE_nt, wE_bo, wE_ife, wE_tup, wE_lst, wE_dnew, wE_ix, wE_sl, wE_call, wE_bf, wE_mut, wE_comp, onEn_val, onEn_own, onEn_bor, res_val, res_obj, res_slot, frz_val, frz_obj, frz_slot, retR_val, retR_obj, retR_slot, objAt_w, isObj_w, isLst_w, putOb_w, agEn_d, agEn_s, setV_w, setEn_no, setEn_val, setEn_own, isNEn_d, isNEn_o, asB_b, onVal_v, setR_val, setR_obj, setR_slot, setRs_nil, setRs_cons, setVs_nil, setVs_cons, asgT_one, asgT_tup, extS_l, opt_s, wFs_nil, wFs_cons, wOs_nil, wOs_cons, wAs_nil, wAs_cons, wAs_bor, wBo_one, wBo_cons, wPart_nil, wPart_one, wCond_nil, wCond_one, wIt_rng1, wIt_rng2, wIt_seq, onInt_i, onSeq_l, onSeq_t, onTup_t, wSs_nil, wSs_cons, wS_set, wS_setT, wS_par, wS_setI, wS_aug, augEn_val, augEn_own, wS_augI, wS_ex, wS_ret, wS_retN, wS_ifs, wS_fo, wS_brk, wS_pas, ix_t, ix_l, ix_o, sl_t, sl_l, sl_o, o_add, o_sub, o_mul, o_fdiv, o_mod, o_pow, o_addT, o_addDD, o_addDO, o_addOD, o_addOO, neg_i, c_lt, c_le, c_gt, c_ge, c_eqI, c_neI, f_lenT, f_lenL, f_lenO, f_int, f_intB, f_abs, f_max2, f_min2, f_tupT, f_tupL, f_tupO, f_lstT, f_lstL, f_lstO, f_isB, f_isI, f_isS, f_isT, f_sumL, f_sumT, f_maxO, f_minO, f_maxT, f_minT, f_sortO, f_setO, mm_app, mm_rev, mm_pop, si_l, get_0, get_s, resEn_own, resEn_bor, resEn_val, frzEn_own, frzEn_val, retEn_own, retEn_val, objEn_own, objEn_bor, isObEn_own, isObEn_bor, isLsEn_own, isLsEn_bor, putEn_own, putEn_bor, agEn_own, agEn_bor, ag_nil, ag_one, true_and, and_true, vB, List.replicate, List.length_cons, List.length_nil, List.cons_append, List.nil_append, List.set, List.map_cons, List.map_nil, agSlots, putObs, notSlot_val, notSlot_obj, List.all_cons, List.all_nil, Bool.and_self, Bool.and_true, outsFrom, obOf_bor, obOf_own, wipeE, back, isBd, isId, isSd, isTd, noneB, g0, g1, g2, g3, g4, g5, g6, g7, g8, g9, g10, g11, g13, g14, g15, g16, g17, g18, g19, g20, g21, g22, g23, x11]
      refine ⟨_, rfl, trivial, rfl, ?_⟩
      simp only [bodyCt, wE_v, wE_g, wE_k, wE_op, wE_neg, wE_cmp, wE_isN, wE_ch, wE_nt, wE_bo, wE_ife, wE_tup, wE_lst, wE_dnew, wE_ix, wE_sl, wE_call, wE_bf, wE_mut, wE_comp, onEn_val, onEn_own, onEn_bor, res_val, res_obj, res_slot, frz_val, frz_obj, frz_slot, retR_val, retR_obj, retR_slot, objAt_w, isObj_w, isLst_w, putOb_w, agEn_d, agEn_s, setV_w, setEn_no, setEn_val, setEn_own, isNEn_d, isNEn_o, asB_b, onVal_v, setR_val, setR_obj, setR_slot, setRs_nil, setRs_cons, setVs_nil, setVs_cons, asgT_one, asgT_tup, extS_l, opt_s, wFs_nil, wFs_cons, wOs_nil, wOs_cons, wAs_nil, wAs_cons, wAs_bor, wBo_one, wBo_cons, wPart_nil, wPart_one, wCond_nil, wCond_one, wIt_rng1, wIt_rng2, wIt_seq, onInt_i, onSeq_l, onSeq_t, onTup_t, wSs_nil, wSs_cons, wS_set, wS_setT, wS_par, wS_setI, wS_aug, augEn_val, augEn_own, wS_augI, wS_ex, wS_ret, wS_retN, wS_ifs, wS_fo, wS_brk, wS_pas, ix_t, ix_l, ix_o, sl_t, sl_l, sl_o, o_add, o_sub, o_mul, o_fdiv, o_mod, o_pow, o_addT, o_addDD, o_addDO, o_addOD, o_addOO, neg_i, c_lt, c_le, c_gt, c_ge, c_eqI, c_neI, f_lenT, f_lenL, f_lenO, f_int, f_intB, f_abs, f_max2, f_min2, f_tupT, f_tupL, f_tupO, f_lstT, f_lstL, f_lstO, f_isB, f_isI, f_isS, f_isT, f_sumL, f_sumT, f_maxO, f_minO, f_maxT, f_minT, f_sortO, f_setO, mm_app, mm_rev, mm_pop, si_l, get_0, get_s, resEn_own, resEn_bor, resEn_val, frzEn_own, frzEn_val, retEn_own, retEn_val, objEn_own, objEn_bor, isObEn_own, isObEn_bor, isLsEn_own, isLsEn_bor, putEn_own, putEn_bor, agEn_own, agEn_bor, ag_nil, ag_one, true_and, and_true, vB, List.replicate, List.length_cons, List.length_nil, List.cons_append, List.nil_append, List.set, List.map_cons, List.map_nil, agSlots, putObs, notSlot_val, notSlot_obj, List.all_cons, List.all_nil, Bool.and_self, Bool.and_true, outsFrom, obOf_bor, obOf_own, wipeE, back, isBd, isId, isSd, isTd, noneB, g0, g1, g2, g3, g4, g5, g6, g7, g8, g9, g10, g11, g13, g14, g15, g16, g17, g18, g19, g20, g21, g22, g23, Bool.not_true, Bool.false_eq_true, if_false]
      refine ⟨by decide, by decide, by decide, by decide, by decide, by decide, by decide, by decide, by decide, by decide, by decide, by decide, by decide, by decide, few, stands3, held, rfl, ⟨good_few, good_st, good_held⟩, rfl, ?_⟩
      simp only [bodyCt, wE_v, wE_g, wE_k, wE_op, wE_neg, wE_cmp, wE_isN, wE_ch, wE_nt, wE_bo, wE_ife, wE_tup, wE_lst, wE_dnew, wE_ix, wE_sl, wE_call, wE_bf, wE_mut, wE_comp, onEn_val, onEn_own, onEn_bor, res_val, res_obj, res_slot, frz_val, frz_obj, frz_slot, retR_val, retR_obj, retR_slot, objAt_w, isObj_w, isLst_w, putOb_w, agEn_d, agEn_s, setV_w, setEn_no, setEn_val, setEn_own, isNEn_d, isNEn_o, asB_b, onVal_v, setR_val, setR_obj, setR_slot, setRs_nil, setRs_cons, setVs_nil, setVs_cons, asgT_one, asgT_tup, extS_l, opt_s, wFs_nil, wFs_cons, wOs_nil, wOs_cons, wAs_nil, wAs_cons, wAs_bor, wBo_one, wBo_cons, wPart_nil, wPart_one, wCond_nil, wCond_one, wIt_rng1, wIt_rng2, wIt_seq, onInt_i, onSeq_l, onSeq_t, onTup_t, wSs_nil, wSs_cons, wS_set, wS_setT, wS_par, wS_setI, wS_aug, augEn_val, augEn_own, wS_augI, wS_ex, wS_ret, wS_retN, wS_ifs, wS_fo, wS_brk, wS_pas, ix_t, ix_l, ix_o, sl_t, sl_l, sl_o, o_add, o_sub, o_mul, o_fdiv, o_mod, o_pow, o_addT, o_addDD, o_addDO, o_addOD, o_addOO, neg_i, c_lt, c_le, c_gt, c_ge, c_eqI, c_neI, f_lenT, f_lenL, f_lenO, f_int, f_intB, f_abs, f_max2, f_min2, f_tupT, f_tupL, f_tupO, f_lstT, f_lstL, f_lstO, f_isB, f_isI, f_isS, f_isT, f_sumL, f_sumT, f_maxO, f_minO, f_maxT, f_minT, f_sortO, f_setO, mm_app, mm_rev, mm_pop, si_l, get_0, get_s, resEn_own, resEn_bor, resEn_val, frzEn_own, frzEn_val, retEn_own, retEn_val, objEn_own, objEn_bor, isObEn_own, isObEn_bor, isLsEn_own, isLsEn_bor, putEn_own, putEn_bor, agEn_own, agEn_bor, ag_nil, ag_one, true_and, and_true, vB, List.replicate, List.length_cons, List.length_nil, List.cons_append, List.nil_append, List.set, List.map_cons, List.map_nil, agSlots, putObs, notSlot_val, notSlot_obj, List.all_cons, List.all_nil, Bool.and_self, Bool.and_true, outsFrom, obOf_bor, obOf_own, wipeE, back, isBd, isId, isSd, isTd, noneB, g0, g1, g2, g3, g4, g5, g6, g7, g8, g9, g10, g11, g13, g14, g15, g16, g17, g18, g19, g20, g21, g22, g23, Bool.not_true, if_true]
      refine ⟨by decide, by decide, by decide, by decide, few, stands3, held, rfl, ⟨good_few, good_st, good_held⟩, rfl, ?_⟩
      rw [x12]
      simp only [bodyCt, wE_v, wE_g, wE_k, wE_op, wE_neg, wE_cmp, wE_isN, wE_ch, wE_nt, wE_bo, wE_ife, wE_tup, wE_lst, wE_dnew, wE_ix, wE_sl, wE_call, wE_bf, wE_mut, wE_comp, onEn_val, onEn_own, onEn_bor, res_val, res_obj, res_slot, frz_val, frz_obj, frz_slot, retR_val, retR_obj, retR_slot, objAt_w, isObj_w, isLst_w, putOb_w, agEn_d, agEn_s, setV_w, setEn_no, setEn_val, setEn_own, isNEn_d, isNEn_o, asB_b, onVal_v, setR_val, setR_obj, setR_slot, setRs_nil, setRs_cons, setVs_nil, setVs_cons, asgT_one, asgT_tup, extS_l, opt_s, wFs_nil, wFs_cons, wOs_nil, wOs_cons, wAs_nil, wAs_cons, wAs_bor, wBo_one, wBo_cons, wPart_nil, wPart_one, wCond_nil, wCond_one, wIt_rng1, wIt_rng2, wIt_seq, onInt_i, onSeq_l, onSeq_t, onTup_t, wSs_nil, wSs_cons, wS_set, wS_setT, wS_par, wS_setI, wS_aug, augEn_val, augEn_own, wS_augI, wS_ex, wS_ret, wS_retN, wS_ifs, wS_fo, wS_brk, wS_pas, ix_t, ix_l, ix_o, sl_t, sl_l, sl_o, o_add, o_sub, o_mul, o_fdiv, o_mod, o_pow, o_addT, o_addDD, o_addDO, o_addOD, o_addOO, neg_i, c_lt, c_le, c_gt, c_ge, c_eqI, c_neI, f_lenT, f_lenL, f_lenO, f_int, f_intB, f_abs, f_max2, f_min2, f_tupT, f_tupL, f_tupO, f_lstT, f_lstL, f_lstO, f_isB, f_isI, f_isS, f_isT, f_sumL, f_sumT, f_maxO, f_minO, f_maxT, f_minT, f_sortO, f_setO, mm_app, mm_rev, mm_pop, si_l, get_0, get_s, resEn_own, resEn_bor, resEn_val, frzEn_own, frzEn_val, retEn_own, retEn_val, objEn_own, objEn_bor, isObEn_own, isObEn_bor, isLsEn_own, isLsEn_bor, putEn_own, putEn_bor, agEn_own, agEn_bor, ag_nil, ag_one, true_and, and_true, vB, List.replicate, List.length_cons, List.length_nil, List.cons_append, List.nil_append, List.set, List.map_cons, List.map_nil, agSlots, putObs, notSlot_val, notSlot_obj, List.all_cons, List.all_nil, Bool.and_self, Bool.and_true, outsFrom, obOf_bor, obOf_own, wipeE, back, isBd, isId, isSd, isTd, noneB, g0, g1, g2, g3, g4, g5, g6, g7, g8, g9, g10, g11, g13, g14, g15, g16, g17, g18, g19, g20, g21, g22, g23]
      refine ⟨by decide, by decide, .tuple [eP (4, 0), .int 3], rfl, ⟨by simp, fun y hy => ?_⟩, rfl, ?_⟩
      · simp only [List.mem_cons, List.not_mem_nil, or_false] at hy
        rcases hy with e | e <;> rw [e]
        · exact shp_eP _ _
        · trivial
      simp only [bodyCt, wE_v, wE_g, wE_k, wE_op, wE_neg, wE_cmp, wE_isN, wE_ch, wE_nt, wE_bo, wE_ife, wE_tup, wE_lst, wE_dnew, wE_ix, wE_sl, wE_call, wE_bf, wE_mut, wE_comp, onEn_val, onEn_own, onEn_bor, res_val, res_obj, res_slot, frz_val, frz_obj, frz_slot, retR_val, retR_obj, retR_slot, objAt_w, isObj_w, isLst_w, putOb_w, agEn_d, agEn_s, setV_w, setEn_no, setEn_val, setEn_own, isNEn_d, isNEn_o, asB_b, onVal_v, setR_val, setR_obj, setR_slot, setRs_nil, setRs_cons, setVs_nil, setVs_cons, asgT_one, asgT_tup, extS_l, opt_s, wFs_nil, wFs_cons, wOs_nil, wOs_cons, wAs_nil, wAs_cons, wAs_bor, wBo_one, wBo_cons, wPart_nil, wPart_one, wCond_nil, wCond_one, wIt_rng1, wIt_rng2, wIt_seq, onInt_i, onSeq_l, onSeq_t, onTup_t, wSs_nil, wSs_cons, wS_set, wS_setT, wS_par, wS_setI, wS_aug, augEn_val, augEn_own, wS_augI, wS_ex, wS_ret, wS_retN, wS_ifs, wS_fo, wS_brk, wS_pas, ix_t, ix_l, ix_o, sl_t, sl_l, sl_o, o_add, o_sub, o_mul, o_fdiv, o_mod, o_pow, o_addT, o_addDD, o_addDO, o_addOD, o_addOO, neg_i, c_lt, c_le, c_gt, c_ge, c_eqI, c_neI, f_lenT, f_lenL, f_lenO, f_int, f_intB, f_abs, f_max2, f_min2, f_tupT, f_tupL, f_tupO, f_lstT, f_lstL, f_lstO, f_isB, f_isI, f_isS, f_isT, f_sumL, f_sumT, f_maxO, f_minO, f_maxT, f_minT, f_sortO, f_setO, mm_app, mm_rev, mm_pop, si_l, get_0, get_s, resEn_own, resEn_bor, resEn_val, frzEn_own, frzEn_val, retEn_own, retEn_val, objEn_own, objEn_bor, isObEn_own, isObEn_bor, isLsEn_own, isLsEn_bor, putEn_own, putEn_bor, agEn_own, agEn_bor, ag_nil, ag_one, true_and, and_true, vB, List.replicate, List.length_cons, List.length_nil, List.cons_append, List.nil_append, List.set, List.map_cons, List.map_nil, agSlots, putObs, notSlot_val, notSlot_obj, List.all_cons, List.all_nil, Bool.and_self, Bool.and_true, outsFrom, obOf_bor, obOf_own, wipeE, back, isBd, isId, isSd, isTd, noneB, g0, g1, g2, g3, g4, g5, g6, g7, g8, g9, g10, g11, g13, g14, g15, g16, g17, g18, g19, g20, g21, g22, g23, if_true]
      refine ⟨l14, few, 7, rfl, good_few, fun l15 => ⟨rfl, ?_⟩⟩
      simp only [bodyCt, wE_v, wE_g, wE_k, wE_op, wE_neg, wE_cmp, wE_isN, wE_ch, wE_nt, wE_bo, wE_ife, wE_tup, wE_lst, wE_dnew, wE_ix, wE_sl, wE_call, wE_bf, wE_mut, wE_comp, onEn_val, onEn_own, onEn_bor, res_val, res_obj, res_slot, frz_val, frz_obj, frz_slot, retR_val, retR_obj, retR_slot, objAt_w, isObj_w, isLst_w, putOb_w, agEn_d, agEn_s, setV_w, setEn_no, setEn_val, setEn_own, isNEn_d, isNEn_o, asB_b, onVal_v, setR_val, setR_obj, setR_slot, setRs_nil, setRs_cons, setVs_nil, setVs_cons, asgT_one, asgT_tup, extS_l, opt_s, wFs_nil, wFs_cons, wOs_nil, wOs_cons, wAs_nil, wAs_cons, wAs_bor, wBo_one, wBo_cons, wPart_nil, wPart_one, wCond_nil, wCond_one, wIt_rng1, wIt_rng2, wIt_seq, onInt_i, onSeq_l, onSeq_t, onTup_t, wSs_nil, wSs_cons, wS_set, wS_setT, wS_par, wS_setI, wS_aug, augEn_val, augEn_own, wS_augI, wS_ex, wS_ret, wS_retN, wS_ifs, wS_fo, wS_brk, wS_pas, ix_t, ix_l, ix_o, sl_t, sl_l, sl_o, o_add, o_sub, o_mul, o_fdiv, o_mod, o_pow, o_addT, o_addDD, o_addDO, o_addOD, o_addOO, neg_i, c_lt, c_le, c_gt, c_ge, c_eqI, c_neI, f_lenT, f_lenL, f_lenO, f_int, f_intB, f_abs, f_max2, f_min2, f_tupT, f_tupL, f_tupO, f_lstT, f_lstL, f_lstO, f_isB, f_isI, f_isS, f_isT, f_sumL, f_sumT, f_maxO, f_minO, f_maxT, f_minT, f_sortO, f_setO, mm_app, mm_rev, mm_pop, si_l, get_0, get_s, resEn_own, resEn_bor, resEn_val, frzEn_own, frzEn_val, retEn_own, retEn_val, objEn_own, objEn_bor, isObEn_own, isObEn_bor, isLsEn_own, isLsEn_bor, putEn_own, putEn_bor, agEn_own, agEn_bor, ag_nil, ag_one, true_and, and_true, vB, List.replicate, List.length_cons, List.length_nil, List.cons_append, List.nil_append, List.set, List.map_cons, List.map_nil, agSlots, putObs, notSlot_val, notSlot_obj, List.all_cons, List.all_nil, Bool.and_self, Bool.and_true, outsFrom, obOf_bor, obOf_own, wipeE, back, isBd, isId, isSd, isTd, noneB, g0, g1, g2, g3, g4, g5, g6, g7, g8, g9, g10, g11, g13, g14, g15, g16, g17, g18, g19, g20, g21, g22, g23]
      exact h
def Dj : Nat → Ent → Prop := fun j e => D[j]? = some e
theorem sems : ∀ j e, D[j]? = some e → Sem Γ j e := by
  intro j e h
  match j, h with
  | 0, h => cases h; exact ⟨fun _ _ _ q => s_bears q, fun z => by (cases z), fun es k k' hk ⟨a, b, c, d⟩ => ⟨a, b, c, hk _ _ d⟩⟩
  | 1, h => cases h; exact ⟨fun _ _ _ q => s_reach q, fun z => by (cases z), fun es k k' hk ⟨a, b, c, d⟩ => ⟨a, b, c, hk _ _ d⟩⟩
  | 2, h => cases h; exact ⟨fun _ _ _ q => s_sq q, fun z => by (cases z), fun es k k' hk ⟨a, b, c, d⟩ => ⟨a, b, c, hk _ _ d⟩⟩
  | 3, h => cases h; exact ⟨fun _ _ _ q => s_can q, fun z => by (cases z), fun es k k' hk ⟨a, b, c, d, e, f, g⟩ => ⟨a, b, c, d, e, f, hk _ _ g⟩⟩
  | 4, h => cases h; exact ⟨fun _ _ _ q => s_lifts q, fun z => by (cases z), fun es k k' hk ⟨a, b, c, d⟩ => ⟨a, b, c, hk _ _ d⟩⟩
  | 5, h => cases h; exact ⟨fun _ _ _ q => s_seen q, fun z => by (cases z), fun es k k' hk ⟨a, b, c, d⟩ => ⟨a, b, c, hk _ _ d⟩⟩
  | 6, h => cases h; exact ⟨fun _ _ _ q => s_lifted q, fun z => by (cases z), fun es k k' hk ⟨a, b, c, d, e, f⟩ => ⟨a, b, c, d, e, hk _ _ f⟩⟩
  | 7, h => cases h; exact ⟨fun _ _ _ q => s_best q, fun z => by (cases z), fun es k k' hk ⟨a, b, c, d, e, f⟩ => ⟨a, b, c, d, e, hk _ _ f⟩⟩
  | 8, h => cases h; exact ⟨fun _ _ _ q => s_two q, fun z => by (cases z), fun es k k' hk ⟨a, b, c, d, e, f⟩ => ⟨a, b, c, d, e, hk _ _ f⟩⟩
  | 9, h => cases h; exact ⟨fun _ _ _ q => s_draws q, fun z => by (cases z), mono_draws⟩
  | 10, h => cases h; exact ⟨fun _ _ _ q => s_take q, fun z => by (cases z), mono_take⟩
  | 11, h => cases h; exact ⟨fun _ _ _ q => s_cell (f := 10) rfl q, fun z => by (cases z), mono_cell⟩
  | 12, h => cases h; exact ⟨fun z => by (cases z), fun _ _ _ ⟨_, _, q, _⟩ => q, mono_same 0⟩
  | 13, h => cases h; exact ⟨fun _ _ _ q => s_same (n := 0) (f := 12) rfl q, fun z => by (cases z), mono_same 1⟩
  | 14, h => cases h; exact ⟨fun _ _ _ q => s_same (n := 1) (f := 13) rfl q, fun z => by (cases z), mono_same 2⟩
  | 15, h => cases h; exact ⟨fun _ _ _ q => s_same (n := 2) (f := 14) rfl q, fun z => by (cases z), mono_same 3⟩
  | 16, h => cases h; exact ⟨fun _ _ _ q => s_same (n := 3) (f := 15) rfl q, fun z => by (cases z), mono_same 4⟩
  | 17, h => cases h; exact ⟨fun _ _ _ q => s_steps q, fun z => by (cases z), fun es k k' hk ⟨a, b, c, d, e⟩ => ⟨a, b, c, d, fun x y z w => hk _ _ (e x y z w)⟩⟩
  | 18, h => cases h; exact ⟨fun _ _ _ q => s_lbears q, fun z => by (cases z), fun es k k' hk ⟨a, b, c, d, e⟩ => ⟨a, b, c, d, hk _ _ e⟩⟩
  | 19, h => cases h; exact ⟨fun _ _ _ q => s_lreach q, fun z => by (cases z), fun es k k' hk ⟨a, b, c, d, e⟩ => ⟨a, b, c, d, hk _ _ e⟩⟩
  | 20, h => cases h; exact ⟨fun _ _ _ q => s_lcan q, fun z => by (cases z), fun es k k' hk ⟨a, b, c, d, e, f, g⟩ => ⟨a, b, c, d, e, f, hk _ _ g⟩⟩
  | 21, h => cases h; exact ⟨fun _ _ _ q => s_told q, fun z => by (cases z), fun es k k' hk ⟨a, b, c, d, e, f⟩ => ⟨a, b, c, d, e, fun x => hk _ _ (f x)⟩⟩
  | 22, h => cases h; exact ⟨fun _ _ _ q => s_stand q, fun z => by (cases z), fun es k k' hk ⟨a, b, c, d, e, f⟩ => ⟨a, b, c, d, e, hk _ _ f⟩⟩
  | 23, h => cases h; exact ⟨fun _ _ _ q => s_law q, fun z => by (cases z), mono_law⟩
  | n + 24, h => simp [D] at h
end K60

set_option Elab.async false
set_option linter.all false
set_option maxRecDepth 100000
set_option maxHeartbeats 0
namespace K60
open PySem PySem.Spec PyProof.Rows L2 Bo
theorem binds : ∀ e ∈ D, BindsOk top e := by
  intro e he
  simp only [D, List.mem_cons, List.not_mem_nil, or_false] at he
  rcases he with rfl | rfl | rfl | rfl | rfl | rfl | rfl | rfl | rfl | rfl | rfl | rfl | rfl | rfl | rfl | rfl | rfl | rfl | rfl | rfl | rfl | rfl | rfl | rfl
  · exact fun _ _ _ _ _ _ us hl => match us, hl with | [_, _], _ => rfl
  · exact fun _ _ _ _ _ _ us hl => match us, hl with | [_, _], _ => rfl
  · exact fun _ _ _ _ _ _ us hl => match us, hl with | [_], _ => rfl
  · exact fun _ _ _ _ _ _ us hl => match us, hl with | [_, _, _, _], _ => rfl
  · exact fun _ _ _ _ _ _ us hl => match us, hl with | [_, _], _ => rfl
  · exact fun _ _ _ _ _ _ us hl => match us, hl with | [_, _], _ => rfl
  · exact fun _ _ _ _ _ _ us hl => match us, hl with | [_, _, _], _ => rfl
  · exact fun _ _ _ _ _ _ us hl => match us, hl with | [_, _, _], _ => rfl
  · exact fun _ _ _ _ _ _ us hl => match us, hl with | [_, _, _], _ => rfl
  · exact fun _ _ _ _ _ _ us hl => match us, hl with | [_, _], _ => rfl
  · exact fun _ _ _ _ _ _ us hl => match us, hl with | [_, _], _ => rfl
  · exact fun _ _ _ _ _ _ us hl => match us, hl with | [_, _], _ => rfl
  · exact fun _ _ _ _ _ _ us hl => match us, hl with | [_, _], _ => rfl
  · exact fun _ _ _ _ _ _ us hl => match us, hl with | [_, _], _ => rfl
  · exact fun _ _ _ _ _ _ us hl => match us, hl with | [_, _], _ => rfl
  · exact fun _ _ _ _ _ _ us hl => match us, hl with | [_, _], _ => rfl
  · exact fun _ _ _ _ _ _ us hl => match us, hl with | [_, _], _ => rfl
  · exact fun _ _ _ _ _ _ us hl => match us, hl with | [_, _], _ => rfl
  · exact fun _ _ _ _ _ _ us hl => match us, hl with | [_, _], _ => rfl
  · exact fun _ _ _ _ _ _ us hl => match us, hl with | [_, _], _ => rfl
  · exact fun _ _ _ _ _ _ us hl => match us, hl with | [_, _, _, _], _ => rfl
  · exact fun _ _ _ _ _ _ us hl => match us, hl with | [_, _, _], _ => rfl
  · exact fun _ _ _ _ _ _ us hl => match us, hl with | [_, _, _], _ => rfl
  · exact fun _ _ _ _ _ _ us hl => match us, hl with | [_], _ => rfl
def fn : List He.DefD := D.map (Ent.dd top)
def fa : List He.Fa := D.map (fun e => .glo e.x) ++ bNames.map .free ++ []
abbrev R : PySem.W.OpenRow := PySem.W.OpenLaw.row PySem.Challenge.rw_boatsout_k60_cranes_and_their_reach
abbrev hk : PySem.W.Hook := He.hookD 4 fa fn
def ob (s : PySem.W.SharedT) : He.AlD := He.obsDG 4 fa fn (HandSHeadRun.getT s)
theorem ob_eq (s : PySem.W.SharedT) : ob s = hk.obs s.abs := He.obsDG_eq (HandSHeadRun.getT_eq s)
def loose : List Str := ["bears_at", "reach_for", "squared", "can_lift", "lifts_in_day", "seen_from", "lifted_from", "best_stand", "two_cranes", "_law_draws", "_law_take", "_law_cell", "_law_same", "_law_steps", "_law_bears", "_law_reach", "_law_can", "_law_is_told", "_law_is_stand_right"]
theorem run (w : World) : HandSHeadRun.RunEq R (PySem.W.view R.prog [21]) hk ob 4000 loose w := by
  intro os
  kernel_rfl
theorem facts {P : Program} {w : World} {K : PySem.W.Frag} {h : Heap} {mg : Str → Option Value} {f : Addr} (X : K.In h) (N : h.Ns mainGlobals mg) (hfa : mg ("law" : Str) = some (.ref f)) (c : He.SaysD fa fn K) :
    ∃ fd : FuncData, (∀ (s : Shared) (v : Value), BindsTo s fd ⟨[v], []⟩ [(("script" : Str), v)]) ∧ ∀ base : Heap, K.In base → base.Ns mainGlobals mg → FnOk P w K mg base CX0 24 f fd [("script" : Str)] (SpOf K 1 lawCt) := by
  have B : Base K mg top G D := by
    refine base_of X N c (fun e he => List.mem_append_left _ (List.mem_append_left _ (List.mem_map.mpr ⟨e, he, rfl⟩))) (fun x hx => List.mem_append_left _ (List.mem_append_right _ (List.mem_map.mpr ⟨x, hx, rfl⟩))) (fun e he => List.mem_map.mpr ⟨e, he, rfl⟩) binds ?_
    intro x d hd
    cases hd
  exact law_facts (e := ⟨21, "law", ["script"], N_law, ir_law, false⟩) B ok sems rfl hfa rfl rfl
end K60
open PySem PySem.W PySem.Calls PyProof.Rows
set_option maxRecDepth 100000 in
set_option maxHeartbeats 0 in
theorem PySem.Challenge.cw_boatsout_k60_cranes_and_their_reach_holds : PySem.Challenge.rw_boatsout_k60_cranes_and_their_reach.Holds := by
  w_on; o_law
  refine HandSHeadRun.head_any (r := OpenLaw.row PySem.Challenge.rw_boatsout_k60_cranes_and_their_reach) (q := view (OpenLaw.row PySem.Challenge.rw_boatsout_k60_cranes_and_their_reach).prog [21]) (H := K60.hk) (ob := K60.ob) (M := 4000) (loose := K60.loose) (d := HandSHeadRun.topDef (OpenLaw.row PySem.Challenge.rw_boatsout_k60_cranes_and_their_reach).prog 21) (kwd := []) K60.ob_eq
    (by kernel_rfl) (fun s => by kernel_rfl) K60.run (by kernel_rfl) (by kernel_rfl) (by kernel_rfl) (by rfl) (by first | assumption | decide +kernel) (by decide +kernel) ⟨rfl, rfl, rfl, rfl, rfl, by decide +kernel⟩ ?hw ?hc
  case hw => w_witness2
  case hc =>
    refine L2.walk_ofE (l := PySem.Challenge.rw_boatsout_k60_cranes_and_their_reach) (n := 63) (k := 24) (x := "script") (CX := L2.CX0) rfl (by decide) (by kernel_rfl) ⟨rfl, by decide, by decide⟩ ?F (fun _ _ _ _ z => z)
    intro w mg fa h Y N hmg0
    obtain ⟨K, KX, c⟩ := Y
    have hmg : mg ("law" : PySem.Str) = some (.ref fa) := by
      have e : (HandSHeadRun.topDef (OpenLaw.row PySem.Challenge.rw_boatsout_k60_cranes_and_their_reach).prog 21).name = ("law" : PySem.Str) := by kernel_rfl
      rw [← e]; exact hmg0
    obtain ⟨fd, hb, hF⟩ := K60.facts (P := (PySem.Challenge.rw_boatsout_k60_cranes_and_their_reach).prog) (w := w) KX N hmg c
    exact ⟨K, fd, Bo.SpOf K 1 Bo.lawCt, KX, hb, fun H a ns hl _ hS => Bo.law_sp hl hS, hF⟩

