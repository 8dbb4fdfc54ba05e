import PyProof.Rows.All
import Wide.All
import OpenK.AllK
import Wide.FinOn
import HandS.ForMost
import HandS.Walk
import HandS.Defaults
import HandS.Wide
import HandS.Deep
import HandS.Style
import HandS.Strs
import HandS.Flow
import HandS.TupAny
import HandS.TupMul
import HandS.NoneIn
import HandS.IsInst
import HandS.Conv
import KE.SortData
import PyProof.ReprRoads
import PyProof.Rows.Digits
import PyProof.ReprReads
import PyProof.SeqIndex
import KE.KIndexOf
import HandS.More
import PyProof.CollectIter
import PyProof.WalksMore
import HandS.Set
import HandS.SetFor
import HandS.Comp
import HandS.Iter
import HandS.DictComp
import HandS.SetBool
import HandS.Dict
import KE.KDictZip
import KE.KDictPairs
import KE.KTurns
import HandS.SortKw
import PyProof.WalkInts
import HandS.Words
import PySem.Challenge.RW_cleanloan_k36_rings
set_option Elab.async false
set_option linter.all false
set_option maxRecDepth 100000
/-! DI1: core syntax and its interpreter over pure data. -/
namespace DI
open PySem

/-- what a slot holds: shared data | an own list (this slot alone has it) | a list that is read only (the script) -/
inductive R where
  | d (x : PyData)
  | l (xs : List PyData)
  | s (xs : List PyData)
  | k (kvs : List (PyData × PyData))
abbrev Rho := List (Option R)
def gt : Rho → Nat → Option R
  | [], _ => none
  | o :: _, 0 => o
  | _ :: t, i + 1 => gt t i
theorem gt_eq : ∀ (ρ : Rho) (i : Nat), gt ρ i = (ρ[i]?).join
  | [], i => by simp [gt]
  | o :: t, 0 => by simp [gt]
  | o :: t, i + 1 => by simp [gt, gt_eq t i]
theorem gt_some {ρ : Rho} {i : Nat} {r : R} : gt ρ i = some r ↔ ρ[i]? = some (some r) := by
  rw [gt_eq]
  cases h : ρ[i]? with
  | none => simp
  | some o => simp

/-- the types that are asked for -/
inductive Ty where | tuple | list | str | int | bool
inductive BOp where | add | sub | mul | fdiv | mod | pow | band | shl | shr
inductive COp where | eq | ne | lt | le | gt | ge | isin | notin | is | isnot
/-- what a comprehension of several clauses makes: a list; sorted of a set, of a dict's keys -/
inductive Kp where | list | sset | sdict
/-- built-ins that look at values and make a value -/
inductive Bi where
  | len | abs | max2 | min2 | sum | all | any | list | tuple | sorted | int | str | repr | maxL | minL
/-- methods that change their list -/
inductive Mu where | append | pop | popAt | extend | insert | clear
/-- methods that only look -/
inductive Mt where | index | count
mutual
inductive CT where
  | nm (i : Nat)
  | tp (ts : CTs)
  | stp (ts : CTs) (i : Nat) (us : CTs)
inductive CTs where
  | nil
  | cons (t : CT) (r : CTs)
end
mutual
inductive CE where
  | nev
  | lrg1 (a : CE)
  | lrg2 (a b : CE)
  | var (i : Nat)
  | cst (d : PyData)
  | glob (g : Nat) (d : PyData)
  | bin (o : BOp) (a b : CE)
  | neg (a : CE)
  | cmp (o : COp) (a b : CE)
  | chain (o p : COp) (a b c : CE)
  | and (a b : CE)
  | or (a b : CE)
  | not (a : CE)
  | ite (c a b : CE)
  | tup (es : CEs)
  | lst (es : CEs)
  | call (f : Nat) (io : List Bool) (es : CEs)
  | callK (f : Nat) (io : List Bool) (es : CEs) (iok : List Bool) (eks : CEs) (ord : List (Option Nat × PyData))
  | bi (b : Bi) (es : CEs)
  | isi (t : Ty) (e : CE)
  | mu (m : Mu) (i : Nat) (es : CEs)
  | mt (m : Mt) (o : CE) (es : CEs)
  | ix (a b : CE)
  | sl (a : CE) (lo hi : Option CE)
  | rev (a : CE)
  | slen (i : Nat)
  | six (i : Nat) (b : CE)
  | lc (own : List Nat) (elt : CE) (t : CT) (it : CI) (ifs : CEs)
  | lc2 (own own2 : List Nat) (elt : CE) (t : CT) (it : CI) (ifs : CEs) (t2 : CT) (it2 : CI) (ifs2 : CEs)
  | sset (a : CE)
  | cp (k : Kp) (own : List Nat) (t : CT) (it : CI) (ifs : CEs) (r : CCs)
  | maxd (a d : CE)
  | dsp (ks : List PyData) (es : CEs)
  | dget (a x d : CE)
  | dix (a x : CE)
  | dzip (a b : CE)
  | gget (g : Nat) (kvs : List (PyData × PyData)) (x d : CE)
  | gix (g : Nat) (kvs : List (PyData × PyData)) (x : CE)
  | ch3 (o p q : COp) (a b c d : CE)
  | rpr (t : Bool) (es : CEs)
inductive CEs where
  | nil
  | cons (e : CE) (r : CEs)
inductive CI where
  | val (e : CE)
  | rng1 (a : CE)
  | rng2 (a b : CE)
  | enum (e : CE)
  | zip (a b : CE)
  | rev (e : CE)
  | rng3 (a b s : CE)
inductive CCs where
  | last (e : CE)
  | cons (own : List Nat) (t : CT) (it : CI) (ifs : CEs) (r : CCs)
end
mutual
inductive CS where
  | nev
  | set (i : Nat) (e : CE)
  | asg (t : CT) (e : CE)
  | par (is : List Nat) (es : CEs)
  | setix (i : Nat) (b e : CE)
  | aug (i : Nat) (o : BOp) (e : CE)
  | ret (e : CE)
  | retv (i : Nat)
  | retn
  | exp (e : CE)
  | ifS (c : CE) (a b : CSs)
  | forS (t : CT) (it : CI) (body : CSs)
  | whileS (c : CE) (body : CSs)
  | pass
  | brk
  | cont
inductive CSs where
  | nil
  | cons (s : CS) (r : CSs)
end

/-! ### data -/
def frz : R → R
  | .l xs => .d (.list xs)
  | r => r
def toD : R → Option PyData
  | .d x => some x
  | .l xs => some (.list xs)
  | .s _ => none
  | .k _ => none
def limLen : Nat := 16000000
/-- truth -/
def tru : PyData → Option Bool
  | .none => some false
  | .bool b => some b
  | .int i => some (i != 0)
  | .str x => if x.length ≤ limLen then some (!decide (x.length = 0)) else none
  | .list xs => some (!xs.isEmpty)
  | .tuple xs => some (!xs.isEmpty)
  | .dict _ => none
def binAdd : PyData → PyData → Option R
  | .int i, .int j => some (.d (.int (i + j)))
  | .str x, .str y => if x.length + y.length ≤ limLen then some (.d (.str (x ++ y))) else none
  | .list xs, .list ys => if xs.length + ys.length ≤ limLen then some (.l (xs ++ ys)) else none
  | .tuple xs, .tuple ys => if xs.length + ys.length ≤ limLen then some (.d (.tuple (xs ++ ys))) else none
  | _, _ => none
def m64 (i : Int) : Bool := decide (-(2 ^ 64) < i) && decide (i < 2 ^ 64)
/-- a product that is not too wide -/
def mulOk (i j : Int) : Bool := m64 i || m64 j || decide (i.natAbs.log2 + j.natAbs.log2 < 1000000)
def binMul : PyData → PyData → Option R
  | .int i, .int j => if mulOk i j = true then some (.d (.int (i * j))) else none
  | .list xs, .int k => if -(2 ^ 63) ≤ k ∧ k < 2 ^ 63 ∧ xs.length * k.toNat ≤ limLen then some (.l (List.replicate k.toNat xs).flatten) else none
  | .tuple xs, .int k => if 1 ≤ xs.length ∧ xs.length ≤ 1000 ∧ 2 ≤ k ∧ k ≤ 1000 then some (.d (.tuple (List.replicate k.toNat xs).flatten)) else none
  | _, _ => none
def bin : BOp → PyData → PyData → Option R
  | .add, x, y => binAdd x y
  | .sub, .int i, .int j => some (.d (.int (i - j)))
  | .mul, x, y => binMul x y
  | .fdiv, .int i, .int j => if 0 < j ∧ j.natAbs.log2 < 9000 then some (.d (.int (i / j))) else none
  | .mod, .int i, .int j => if 0 < j then some (.d (.int (i % j))) else none
  | .pow, .int i, .int j => if 0 ≤ j ∧ j ≤ 1000000 ∧ i.natAbs < 2 ^ 64 then some (.d (.int (i ^ j.toNat))) else none
  | .band, .int i, .int j => some (.d (.int (Builtin.bitAnd i j)))
  | .shl, .int i, .int j => if 0 ≤ j ∧ j ≤ 1000000 ∧ i.natAbs < 2 ^ 64 then some (.d (.int (i * 2 ^ j.toNat))) else none
  | .shr, .int i, .int j => if 0 ≤ j then some (.d (.int (i / 2 ^ j.toNat))) else none
  | _, _, _ => none
def items : PyData → Option (List PyData)
  | .list xs => some xs
  | .tuple xs => some xs
  | _ => none
def cmpEq : PyData → PyData → Option Bool
  | .str a, .str b => some (decide (a = b))
  | x, y => if SeqAt.shaped x = true ∧ SeqAt.shaped y = true then some (PyData.eqv x y) else none
def flatD : PyData → Bool
  | .none | .bool _ | .int _ | .str _ => true
  | _ => false
def cmpIn (x y : PyData) : Option Bool :=
  match y with
  | .list ys => if SeqAt.shaped x = true ∧ SeqAt.shaped (.list ys) = true then some (ys.any fun z => PyData.eqv z x) else none
  | .tuple ys => if flatD x = true ∧ ys.all flatD = true then some (ys.any fun z => PyData.eqv z x) else none
  | .str b => match x with
    | .str a => some (!(Builtin.Str.occurrences b a 0 b.length 1).isEmpty)
    | _ => none
  | _ => none
def isNone : PyData → Bool
  | .none => true
  | _ => false
def isD : PyData → PyData → Option Bool
  | .bool a, .bool b => some (decide (a = b))
  | x, .none => some (isNone x)
  | _, _ => none
def cmpLt : PyData → PyData → Option Bool
  | .int i, .int j => some (decide (i < j))
  | _, _ => none
def cmpLe : PyData → PyData → Option Bool
  | .int i, .int j => some (decide (i ≤ j))
  | _, _ => none
def cmp : COp → PyData → PyData → Option Bool
  | .eq, x, y => cmpEq x y
  | .ne, x, y => (cmpEq x y).map (!·)
  | .lt, x, y => cmpLt x y
  | .le, x, y => cmpLe x y
  | .gt, x, y => cmpLt y x
  | .ge, x, y => cmpLe y x
  | .isin, x, y => cmpIn x y
  | .notin, x, y => (cmpIn x y).map (!·)
  | .is, x, y => isD x y
  | .isnot, x, y => (isD x y).map (!·)
def intsD : List PyData → Option (List Int)
  | [] => some []
  | .int i :: r => (intsD r).map (i :: ·)
  | _ :: _ => none
def boolsD : List PyData → Option (List Bool)
  | [] => some []
  | .bool b :: r => (boolsD r).map (b :: ·)
  | _ :: _ => none
def isT : Ty → PyData → Bool
  | .bool, .bool _ => true
  | .int, .bool _ => true
  | .int, .int _ => true
  | .str, .str _ => true
  | .list, .list _ => true
  | .tuple, .tuple _ => true
  | _, _ => false
def listMax : List Int → Option Int
  | [] => none
  | a :: r => some (r.foldl (fun m x => if m < x then x else m) a)
def listMin : List Int → Option Int
  | [] => none
  | a :: r => some (r.foldl (fun m x => if x < m then x else m) a)
open Classical in
noncomputable def sortD (xs : List PyData) : Option (List PyData) :=
  if PySem.W.AllAlike xs ∧ PySem.W.Sortable xs ∧ xs.length ≤ limLen ∧ (∀ b ∈ xs, b.depth ≤ 40) then some (xs.mergeSort (PySem.W.dataLe false id)) else none
/-! what repr shows here: numbers below the digits' limit -/
mutual
def showX : PyData → Bool
  | .int i => decide (i.natAbs.log2 < 12900)
  | .list xs | .tuple xs => showXs xs
  | .dict _ => false
  | .none | .bool _ | .str _ => true
def showXs : List PyData → Bool
  | [] => true
  | x :: xs => showX x && showXs xs
end
noncomputable def biF : Bi → List PyData → Option R
  | .len, [.str x] => if x.length ≤ limLen then some (.d (.int x.length)) else none
  | .len, [.list xs] => some (.d (.int xs.length))
  | .len, [.tuple xs] => some (.d (.int xs.length))
  | .abs, [.int i] => some (.d (.int (if i < 0 then -i else i)))
  | .max2, [.int i, .int j] => some (.d (.int (if j > i then j else i)))
  | .min2, [.int i, .int j] => some (.d (.int (if j < i then j else i)))
  | .sum, [.list xs] => (intsD xs).map fun ns => .d (.int ns.sum)
  | .all, [.list xs] => (boolsD xs).map fun bs => .d (.bool (bs.all id))
  | .any, [.list xs] => (boolsD xs).map fun bs => .d (.bool (bs.any id))
  | .list, [x] => (items x).map .l
  | .tuple, [x] => (items x).map fun xs => .d (.tuple xs)
  | .sorted, [x] => ((items x).bind sortD).map .l
  | .int, [.int i] => some (.d (.int i))
  | .int, [.bool b] => some (.d (.int (if b then 1 else 0)))
  | .maxL, [.list xs] => ((intsD xs).bind listMax).map fun m => .d (.int m)
  | .minL, [.list xs] => ((intsD xs).bind listMin).map fun m => .d (.int m)
  | .repr, [x] => if showX x = true ∧ x.hasDict = false ∧ x.depth ≤ 60 ∧ x.shown.length ≤ limLen then some (.d (.str x.shown)) else none
  | .str, [.int i] => if i.natAbs.log2 < 1920 then some (.d (.str (toString i))) else none
  | _, _ => none
/-! ints rising, each once -/
def insU (k : Int) : List Int → List Int
  | [] => [k]
  | x :: r => if k < x then k :: x :: r else if k = x then x :: r else x :: insU k r
def riseU : List Int → List Int
  | [] => []
  | k :: r => insU k (riseU r)
def ssetD (xs : List PyData) : Option (List PyData) := (intsD xs).bind fun ns => if ns.length < 64 then some ((riseU ns).map .int) else none
/-! dicts that are read only: their keys ints and texts -/
def keyOk : PyData → Bool
  | .int _ => true
  | .str _ => true
  | _ => false
def keyEq : PyData → PyData → Bool
  | .int a, .int b => decide (a = b)
  | .str a, .str b => decide (a = b)
  | _, _ => false
def lookD (x : PyData) : List (PyData × PyData) → Option PyData
  | [] => none
  | (k, v) :: r => if keyEq k x = true then some v else lookD x r
def putD (k v : PyData) (l : List (PyData × PyData)) : List (PyData × PyData) :=
  if (l.any fun p => keyEq p.1 k) = true then l.map fun p => if keyEq p.1 k = true then (p.1, v) else p else l ++ [(k, v)]
def uniqD : List PyData → Bool
  | [] => true
  | k :: r => keyOk k && !(r.any fun j => keyEq j k) && uniqD r
def kOf : R → Option (List (PyData × PyData))
  | .k kvs => some kvs
  | _ => none
def dspD (ks : List PyData) (vs : List PyData) : Option R := if uniqD ks = true ∧ ks.length = vs.length ∧ 1 ≤ ks.length ∧ ks.length ≤ 15 then some (.k (ks.zip vs)) else none
def getD (kvs : List (PyData × PyData)) (x : PyData) (d : PyData) : Option PyData := if keyOk x = true then some ((lookD x kvs).getD d) else none
def dixD (kvs : List (PyData × PyData)) (x : PyData) : Option PyData := if keyOk x = true then lookD x kvs else none
def intKeys : List PyData → Bool
  | [] => true
  | .int _ :: r => intKeys r
  | _ :: _ => false
def dzipD (xs ys : List PyData) : Option R := if intKeys xs = true ∧ xs.length ≤ 64 then some (.k ((xs.zip ys).foldl (fun acc p => putD p.1 p.2 acc) [])) else none
def maxdD (xs : List PyData) (d : PyData) : Option R := (intsD xs).map fun ns => match listMax ns with
  | some m => .d (.int m)
  | none => .d d
/-- the contents, the arguments: what is told, the contents behind it -/
def muF : Mu → List PyData → List PyData → Option (PyData × List PyData)
  | .append, xs, [x] => if xs.length < limLen then some (.none, xs ++ [x]) else none
  | .pop, xs, [] => (xs[xs.length - 1]?).map fun y => (y, xs.dropLast)
  | .popAt, xs, [.int i] => if -(2 ^ 63) ≤ i ∧ i < 2 ^ 63 then (seqIndex? i xs.length).bind fun k => (xs[k]?).map fun y => (y, xs.eraseIdx k) else none
  | .extend, xs, [y] => (items y).bind fun ys => if xs.length + ys.length ≤ limLen then some (.none, xs ++ ys) else none
  | .clear, _, [] => some (.none, [])
  | .insert, xs, [.int i, x] => if 0 ≤ i ∧ i ≤ xs.length ∧ xs.length < limLen then some (.none, xs.take i.toNat ++ x :: xs.drop i.toNat) else none
  | _, _, _ => none
def firstIx (x : PyData) : List PyData → Option Nat
  | [] => none
  | z :: r => if PyData.eqv z x = true then some 0 else (firstIx x r).map (· + 1)
def mtF : Mt → PyData → List PyData → Option R
  | .index, .list ys, [x] => if SeqAt.shaped x = true ∧ SeqAt.shaped (.list ys) = true then (firstIx x ys).map fun (k : Nat) => R.d (.int (k : Int)) else none
  | .index, .tuple ys, [x] => if SeqAt.shaped x = true ∧ SeqAt.shaped (.tuple ys) = true then (firstIx x ys).map fun (k : Nat) => R.d (.int (k : Int)) else none
  | .count, .list ys, [x] => if SeqAt.shaped x = true ∧ SeqAt.shaped (.list ys) = true then some (.d (.int (ys.countP fun z => PyData.eqv z x))) else none
  | .count, .tuple ys, [x] => if SeqAt.shaped x = true ∧ SeqAt.shaped (.tuple ys) = true then some (.d (.int (ys.countP fun z => PyData.eqv z x))) else none
  | _, _, _ => none
def kindOf : PyData → Nat
  | .list _ => 1
  | .tuple _ => 2
  | .str _ => 3
  | _ => 0
def ixF : PyData → PyData → Option PyData
  | .list xs, .int i => L2.atI xs i
  | .tuple xs, .int i => L2.atI xs i
  | .str z, .int i => if z.length ≤ limLen then (L2.atI z.cps.toList i).map fun c => .str ⟨#[c]⟩ else none
  | _, _ => none
def partI : R → Option (Option Int)
  | .d (.int i) => some (some i)
  | .d .none => some none
  | _ => none
def cutD (xs : List PyData) (lo hi : Option Int) : List PyData := (xs.drop (HT.sIx xs.length 0 lo)).take (HT.sIx xs.length xs.length hi - HT.sIx xs.length 0 lo)
def slF : PyData → Option Int → Option Int → Option R
  | .list xs, lo, hi => some (.l (cutD xs lo hi))
  | .tuple xs, lo, hi => some (.d (.tuple (cutD xs lo hi)))
  | _, _, _ => none

/-! ### arguments -/
inductive Arg where
  | s (i : Nat)
  | v (r : R)
def Arg.slot? : Arg → Option Nat
  | .s i => some i
  | .v _ => none
/-- borrowed where an own list stands at a name -/
def brw (c : CE) (ρ : Rho) (t : Option (R × Rho)) : Option (Arg × Rho) :=
  match c with
  | .var i => match gt ρ i with
    | some (.l _) => some (.s i, ρ)
    | _ => t.map fun p => (.v p.1, p.2)
  | _ => t.map fun p => (.v p.1, p.2)
def rd (ρ : Rho) : Arg → Option PyData
  | .s i => (gt ρ i).bind toD
  | .v r => toD r
def rds (ρ : Rho) : List Arg → Option (List PyData)
  | [] => some []
  | a :: r => (rd ρ a).bind fun x => (rds ρ r).map (x :: ·)
/-- an argument that is handed over -/
def ra (ρ : Rho) : Arg → Option R
  | .s i => match gt ρ i with
    | some (.l xs) => some (.l xs)
    | _ => none
  | .v r => some r
def ras (ρ : Rho) : List Arg → Option (List R)
  | [] => some []
  | a :: r => (ra ρ a).bind fun x => (ras ρ r).map (x :: ·)
def wb : List Arg → List R → Rho → Rho
  | .s i :: as, r :: rs, ρ => wb as rs (ρ.set i (some r))
  | .v _ :: as, _ :: rs, ρ => wb as rs ρ
  | _, _, ρ => ρ
/-- the parameters' arguments: of those that are written (positional, then by keywords), or a default -/
def pick (as : List Arg) : List (Option Nat × PyData) → Option (List Arg)
  | [] => some []
  | (some i, _) :: r => (as[i]?).bind fun a => (pick as r).map (a :: ·)
  | (none, d) :: r => (pick as r).map (.v (.d d) :: ·)
def wipeR (ρ : Rho) : List Nat → Rho
  | [] => ρ
  | v :: vs => (wipeR ρ vs).set v none
def restoreR (ρ0 : Rho) (ρ : Rho) : List Nat → Rho
  | [] => ρ
  | v :: vs => (restoreR ρ0 ρ vs).set v (gt ρ0 v)
/-- a name is stored -/
def setS (io : List Nat) (i : Nat) (r : R) (ρ : Rho) : Option Rho := if i ∈ io ∨ ¬ i < ρ.length then none else some (ρ.set i (some r))
mutual
def CT.sl : CT → List Nat
  | .nm i => [i]
  | .tp ts => ts.sl
  | .stp ts i us => ts.sl ++ i :: us.sl
def CTs.sl : CTs → List Nat
  | .nil => []
  | .cons t r => t.sl ++ r.sl
end
def CTs.len : CTs → Nat
  | .nil => 0
  | .cons _ r => r.len + 1
mutual
def bindT (io : List Nat) : CT → PyData → Rho → Option Rho
  | .nm i, x, ρ => setS io i (.d x) ρ
  | .tp ts, .tuple xs, ρ => if xs.length = ts.len then bindTs io ts xs ρ else none
  | .tp ts, .list xs, ρ => if xs.length = ts.len then bindTs io ts xs ρ else none
  | .tp _, _, _ => none
  | .stp ts i us, .tuple xs, ρ => if ts.len + us.len ≤ xs.length then
      (bindTs io ts (xs.take ts.len) ρ).bind fun ρ1 => (setS io i (.l ((xs.drop ts.len).take (xs.length - ts.len - us.len))) ρ1).bind fun ρ2 => bindTs io us (xs.drop (xs.length - us.len)) ρ2 else none
  | .stp ts i us, .list xs, ρ => if ts.len + us.len ≤ xs.length then
      (bindTs io ts (xs.take ts.len) ρ).bind fun ρ1 => (setS io i (.l ((xs.drop ts.len).take (xs.length - ts.len - us.len))) ρ1).bind fun ρ2 => bindTs io us (xs.drop (xs.length - us.len)) ρ2 else none
  | .stp _ _ _, _, _ => none
def bindTs (io : List Nat) : CTs → List PyData → Rho → Option Rho
  | .cons t r, x :: xs, ρ => (bindT io t x ρ).bind fun ρ1 => bindTs io r xs ρ1
  | .nil, _, ρ => some ρ
  | .cons _ _, [], _ => none
end
abbrev Phi := Nat → List R → Option (R × List R)
def lcL (f : PyData → Rho → Option (Option PyData × Rho)) : List PyData → Rho → Option (List PyData × Rho)
  | [], ρ => some ([], ρ)
  | x :: xs, ρ => (f x ρ).bind fun p => (lcL f xs p.2).map fun q => (match p.1 with | some y => y :: q.1 | none => q.1, q.2)
def lcC (f : PyData → Rho → Option (List PyData × Rho)) : List PyData → Rho → Option (List PyData × Rho)
  | [], ρ => some ([], ρ)
  | x :: xs, ρ => (f x ρ).bind fun p => (lcC f xs p.2).map fun q => (p.1 ++ q.1, q.2)
def rngL (a b : Int) : List PyData := (List.range (b - a).toNat).map fun i => .int (a + (i : Nat))
def smallI (i : Int) : Bool := decide (-(2 ^ 62) ≤ i) && decide (i < 2 ^ 62)
def rangeD (a b : Int) : Option (List PyData) := if smallI a = true ∧ smallI b = true then some (rngL a b) else none
/-- range with a step -/
def rngS (a b s : Int) : List PyData := (List.range (Builtin.Range.rangeSize a b s).toNat).map fun i => .int (a + (i : Nat) * s)
def rangeS (a b s : Int) : Option (List PyData) := if s ≠ 0 ∧ s.natAbs < 1073741824 ∧ Builtin.Range.small a b s = true ∧ 0 ≤ Builtin.Range.rangeSize a b s then some (rngS a b s) else none
/-- list(range(..)) -/
def rangeL (a b : Int) : Option R := if smallI a = true ∧ smallI b = true ∧ (b - a).toNat ≤ limLen then some (.l (rngL a b)) else none
def finK : Kp → List PyData → Option R
  | .list, ys => if ys.length ≤ limLen then some (.l ys) else none
  | _, ys => (ssetD ys).map .l
def enumD (xs : List PyData) : List PyData := xs.zipIdx.map fun p => .tuple [.int (p.2 : Nat), p.1]
def zipD (xs ys : List PyData) : List PyData := (xs.zip ys).map fun p => .tuple [p.1, p.2]
def strItems (x : Str) : List PyData := x.cps.toList.map fun c => .str ⟨#[c]⟩
def iterD : PyData → Option (List PyData)
  | .list xs => some xs
  | .tuple xs => some xs
  | .str x => some (strItems x)
  | _ => none

/-! ### the interpreter -/
section
variable (Φ : Phi)
mutual
noncomputable def ev : CE → Rho → Option (R × Rho)
  | .nev, _ => none
  | .lrg1 a, ρ => (ev a ρ).bind fun p => match p.1 with
    | .d (.int j) => (rangeL 0 j).map fun r => (r, p.2)
    | _ => none
  | .lrg2 a b, ρ => (ev a ρ).bind fun p => (ev b p.2).bind fun q => match p.1, q.1 with
    | .d (.int i), .d (.int j) => (rangeL i j).map fun r => (r, q.2)
    | _, _ => none
  | .var i, ρ => match gt ρ i with
    | some (.l xs) => some (.d (.list xs), ρ.set i (some (.d (.list xs))))
    | some r => some (r, ρ)
    | none => none
  | .cst d, ρ => some (.d d, ρ)
  | .glob _ d, ρ => some (.d d, ρ)
  | .bin o a b, ρ => (brw a ρ (ev a ρ)).bind fun p => (brw b p.2 (ev b p.2)).bind fun q => (rd q.2 p.1).bind fun x => (rd q.2 q.1).bind fun y => (bin o x y).map fun r => (r, q.2)
  | .neg a, ρ => (ev a ρ).bind fun p => match p.1 with
    | .d (.int i) => some (.d (.int (-i)), p.2)
    | _ => none
  | .cmp o a b, ρ => (brw a ρ (ev a ρ)).bind fun p => (brw b p.2 (ev b p.2)).bind fun q => (rd q.2 p.1).bind fun x => (rd q.2 q.1).bind fun y => (cmp o x y).map fun r => (.d (.bool r), q.2)
  | .chain o o2 a b c, ρ => (brw a ρ (ev a ρ)).bind fun p => (brw b p.2 (ev b p.2)).bind fun q => (rd q.2 p.1).bind fun x => (rd q.2 q.1).bind fun y => (cmp o x y).bind fun k =>
      if k = true then (brw c q.2 (ev c q.2)).bind fun s => (rd s.2 q.1).bind fun y' => (rd s.2 s.1).bind fun z => (cmp o2 y' z).map fun r => (.d (.bool r), s.2) else some (.d (.bool false), q.2)
  | .and a b, ρ => (ev a ρ).bind fun p => (toD p.1).bind fun x => (tru x).bind fun k => if k = true then ev b p.2 else some (.d x, p.2)
  | .or a b, ρ => (ev a ρ).bind fun p => (toD p.1).bind fun x => (tru x).bind fun k => if k = true then some (.d x, p.2) else ev b p.2
  | .not a, ρ => (brw a ρ (ev a ρ)).bind fun p => (rd p.2 p.1).bind fun x => (tru x).map fun k => (.d (.bool (!k)), p.2)
  | .ite c a b, ρ => (evT c ρ).bind fun p => if p.1 = true then ev a p.2 else ev b p.2
  | .tup es, ρ => (evs es ρ).bind fun p => if p.1.length ≤ limLen then some (.d (.tuple p.1), p.2) else none
  | .lst es, ρ => (evs es ρ).bind fun p => if p.1.length ≤ limLen then some (.l p.1, p.2) else none
  | .call f io es, ρ => (eva io es ρ).bind fun p => if (p.1.filterMap Arg.slot?).Nodup then (ras p.2 p.1).bind fun rs => (Φ f rs).map fun q => (q.1, wb p.1 q.2 p.2) else none
  | .callK f io es iok eks ord, ρ => (eva io es ρ).bind fun p => (eva iok eks p.2).bind fun q => (pick (p.1 ++ q.1) ord).bind fun as => if (as.filterMap Arg.slot?).Nodup then (ras q.2 as).bind fun rs => (Φ f rs).map fun t => (t.1, wb as t.2 q.2) else none
  | .bi b es, ρ => (evb es ρ).bind fun p => (rds p.2 p.1).bind fun xs => (biF b xs).map fun r => (r, p.2)
  | .isi t e, ρ => (brw e ρ (ev e ρ)).bind fun p => (rd p.2 p.1).bind fun x => match x with
    | .dict _ => none
    | x => some (.d (.bool (isT t x)), p.2)
  | .mu m i es, ρ => match gt ρ i with
    | some (.l _) => (evs es ρ).bind fun p => match gt p.2 i with
      | some (.l xs) => (muF m xs p.1).map fun q => (.d q.1, p.2.set i (some (.l q.2)))
      | _ => none
    | _ => none
  | .mt m o es, ρ => (brw o ρ (ev o ρ)).bind fun p => (rd p.2 p.1).bind fun x0 => (evb es p.2).bind fun q => (rd q.2 p.1).bind fun x => if kindOf x0 = kindOf x then (rds q.2 q.1).bind fun ys => (mtF m x ys).map fun r => (r, q.2) else none
  | .ix a b, ρ => (brw a ρ (ev a ρ)).bind fun p => (brw b p.2 (ev b p.2)).bind fun q => (rd q.2 p.1).bind fun x => (rd q.2 q.1).bind fun y => (ixF x y).map fun r => (.d r, q.2)
  | .sl a none none, ρ => (brw a ρ (ev a ρ)).bind fun p => (rd p.2 p.1).bind fun x => (slF x none none).map fun r => (r, p.2)
  | .sl a (some lo) none, ρ => (brw a ρ (ev a ρ)).bind fun p => (ev lo p.2).bind fun q => (rd q.2 p.1).bind fun x => (partI q.1).bind fun l => (slF x l none).map fun r => (r, q.2)
  | .sl a none (some hi), ρ => (brw a ρ (ev a ρ)).bind fun p => (ev hi p.2).bind fun q => (rd q.2 p.1).bind fun x => (partI q.1).bind fun u => (slF x none u).map fun r => (r, q.2)
  | .sl a (some lo) (some hi), ρ => (brw a ρ (ev a ρ)).bind fun p => (ev lo p.2).bind fun q => (ev hi q.2).bind fun s => (rd s.2 p.1).bind fun x => (partI q.1).bind fun l => (partI s.1).bind fun u => (slF x l u).map fun r => (r, s.2)
  | .rev a, ρ => (brw a ρ (ev a ρ)).bind fun p => (rd p.2 p.1).bind fun x => match x with
    | .list xs => some (.l xs.reverse, p.2)
    | _ => none
  | .slen i, ρ => match gt ρ i with
    | some (.s xs) => some (.d (.int xs.length), ρ)
    | _ => none
  | .six i b, ρ => match gt ρ i with
    | some (.s xs) => (ev b ρ).bind fun q => match q.1 with
      | .d (.int k) => (L2.atI xs k).map fun y => (.d y, q.2)
      | _ => none
    | _ => none
  | .lc own elt t it ifs, ρ => (evI it ρ).bind fun p =>
      (lcL (fun x ρ' => (bindT [] t x ρ').bind fun ρ1 => (evTs ifs ρ1).bind fun q =>
        if q.1 = true then (ev elt q.2).bind fun s => (toD s.1).map fun y => (some y, wipeR s.2 own) else some (none, wipeR q.2 own)) p.1 (wipeR p.2 own)).bind fun r =>
        if r.1.length ≤ limLen then some (.l r.1, restoreR p.2 r.2 own) else none
  | .lc2 own own2 elt t it ifs t2 it2 ifs2, ρ => (evI it ρ).bind fun p =>
      (lcC (fun x ρ' => (bindT [] t x ρ').bind fun ρ1 => (evTs ifs ρ1).bind fun q =>
        if q.1 = true then (evI it2 q.2).bind fun p2 => (lcL (fun x2 ρ2' => (bindT [] t2 x2 ρ2').bind fun ρ3 => (evTs ifs2 ρ3).bind fun q2 =>
            if q2.1 = true then (ev elt q2.2).bind fun s => (toD s.1).map fun y => (some y, wipeR s.2 own2) else some (none, wipeR q2.2 own2)) p2.1 (wipeR p2.2 own2)).map fun r => (r.1, wipeR r.2 own)
        else some ([], wipeR q.2 own)) p.1 (wipeR p.2 own)).bind fun r =>
        if r.1.length ≤ limLen then some (.l r.1, restoreR p.2 r.2 own) else none
  | .sset a, ρ => (brw a ρ (ev a ρ)).bind fun p => (rd p.2 p.1).bind fun x => match x with
    | .list xs => (ssetD xs).map fun ys => (.l ys, p.2)
    | _ => none
  | .cp k own t it ifs r, ρ => (evI it ρ).bind fun p =>
      (lcC (fun x ρ' => (bindT [] t x ρ').bind fun ρ1 => (evTs ifs ρ1).bind fun q =>
        if q.1 = true then (evC r q.2).map fun s => (s.1, wipeR s.2 own) else some ([], wipeR q.2 own)) p.1 (wipeR p.2 own)).bind fun s =>
        (finK k s.1).map fun v => (v, restoreR p.2 s.2 own)
  | .maxd a d, ρ => (brw a ρ (ev a ρ)).bind fun p => (ev d p.2).bind fun q => (toD q.1).bind fun y => (rd q.2 p.1).bind fun x => match x with
    | .list xs => (maxdD xs y).map fun r => (r, q.2)
    | _ => none
  | .dsp ks es, ρ => (evs es ρ).bind fun p => (dspD ks p.1).map fun r => (r, p.2)
  | .dget a x d, ρ => (ev a ρ).bind fun p => (kOf p.1).bind fun kvs => (ev x p.2).bind fun q => (toD q.1).bind fun y => (ev d q.2).bind fun s => (toD s.1).bind fun z => (getD kvs y z).map fun r => (.d r, s.2)
  | .dix a x, ρ => (ev a ρ).bind fun p => (kOf p.1).bind fun kvs => (ev x p.2).bind fun q => (toD q.1).bind fun y => (dixD kvs y).map fun r => (.d r, q.2)
  | .dzip a b, ρ => (ev a ρ).bind fun p => (ev b p.2).bind fun q => (toD p.1).bind fun x => (toD q.1).bind fun y => match x, y with
    | .list xs, .list ys => (dzipD xs ys).map fun r => (r, q.2)
    | _, _ => none
  | .gget _ kvs x d, ρ => (ev x ρ).bind fun q => (toD q.1).bind fun y => (ev d q.2).bind fun s => (toD s.1).bind fun z => (getD kvs y z).map fun r => (.d r, s.2)
  | .gix _ kvs x, ρ => (ev x ρ).bind fun q => (toD q.1).bind fun y => (dixD kvs y).map fun r => (.d r, q.2)
  | .ch3 o o2 o3 a b c d, ρ => (brw a ρ (ev a ρ)).bind fun p => (brw b p.2 (ev b p.2)).bind fun q => (rd q.2 p.1).bind fun x => (rd q.2 q.1).bind fun y => (cmp o x y).bind fun k =>
      if k = true then (brw c q.2 (ev c q.2)).bind fun s => (rd s.2 q.1).bind fun y' => (rd s.2 s.1).bind fun z => (cmp o2 y' z).bind fun k2 =>
        if k2 = true then (brw d s.2 (ev d s.2)).bind fun u => (rd u.2 s.1).bind fun z' => (rd u.2 u.1).bind fun w => (cmp o3 z' w).map fun r => (.d (.bool r), u.2) else some (.d (.bool false), s.2)
      else some (.d (.bool false), q.2)
  | .rpr t es, ρ => (evb es ρ).bind fun p => (rds p.2 p.1).bind fun xs => if xs.length ≤ limLen then (biF .repr [if t = true then .tuple xs else .list xs]).map fun r => (r, p.2) else none
noncomputable def evC : CCs → Rho → Option (List PyData × Rho)
  | .last e, ρ => (ev e ρ).bind fun s => (toD s.1).map fun y => ([y], s.2)
  | .cons own t it ifs r, ρ => (evI it ρ).bind fun p =>
      lcC (fun x ρ' => (bindT [] t x ρ').bind fun ρ1 => (evTs ifs ρ1).bind fun q =>
        if q.1 = true then (evC r q.2).map fun s => (s.1, wipeR s.2 own) else some ([], wipeR q.2 own)) p.1 (wipeR p.2 own)
noncomputable def evT : CE → Rho → Option (Bool × Rho)
  | .and a b, ρ => (evT a ρ).bind fun p => if p.1 = true then evT b p.2 else some (false, p.2)
  | .or a b, ρ => (evT a ρ).bind fun p => if p.1 = true then some (true, p.2) else evT b p.2
  | .not a, ρ => (evT a ρ).map fun p => (!p.1, p.2)
  | .ite _ _ _, _ => none
  | c, ρ => (brw c ρ (ev c ρ)).bind fun p => (rd p.2 p.1).bind fun x => (tru x).map fun k => (k, p.2)
noncomputable def evs : CEs → Rho → Option (List PyData × Rho)
  | .nil, ρ => some ([], ρ)
  | .cons e r, ρ => (ev e ρ).bind fun p => (toD p.1).bind fun x => (evs r p.2).map fun q => (x :: q.1, q.2)
noncomputable def evb : CEs → Rho → Option (List Arg × Rho)
  | .nil, ρ => some ([], ρ)
  | .cons e r, ρ => (brw e ρ (ev e ρ)).bind fun p => (evb r p.2).map fun q => (p.1 :: q.1, q.2)
noncomputable def eva : List Bool → CEs → Rho → Option (List Arg × Rho)
  | _, .nil, ρ => some ([], ρ)
  | [], .cons e r, ρ => (ev e ρ).bind fun p => (eva [] r p.2).map fun q => (.v (frz p.1) :: q.1, q.2)
  | k :: io, .cons e r, ρ => (if k = true then brw e ρ (ev e ρ) else (ev e ρ).map fun p => (.v (frz p.1), p.2)).bind fun p => (eva io r p.2).map fun q => (p.1 :: q.1, q.2)
noncomputable def evTs : CEs → Rho → Option (Bool × Rho)
  | .nil, ρ => some (true, ρ)
  | .cons e r, ρ => (evT e ρ).bind fun p => if p.1 = true then evTs r p.2 else some (false, p.2)
noncomputable def evI : CI → Rho → Option (List PyData × Rho)
  | .val e, ρ => (ev e ρ).bind fun p => (toD p.1).bind fun x => (iterD x).map fun xs => (xs, p.2)
  | .rng1 a, ρ => (ev a ρ).bind fun p => match p.1 with
    | .d (.int j) => (rangeD 0 j).map fun xs => (xs, p.2)
    | _ => none
  | .rng2 a b, ρ => (ev a ρ).bind fun p => (ev b p.2).bind fun q => match p.1, q.1 with
    | .d (.int i), .d (.int j) => (rangeD i j).map fun xs => (xs, q.2)
    | _, _ => none
  | .enum e, ρ => (ev e ρ).bind fun p => (toD p.1).bind fun x => match x with
    | .list xs => some (enumD xs, p.2)
    | _ => none
  | .zip a b, ρ => (ev a ρ).bind fun p => (ev b p.2).bind fun q => (toD p.1).bind fun x => (toD q.1).bind fun y => match x, y with
    | .list xs, .list ys => some (zipD xs ys, q.2)
    | _, _ => none
  | .rev e, ρ => (ev e ρ).bind fun p => (toD p.1).bind fun x => match x with
    | .list xs => some (xs.reverse, p.2)
    | _ => none
  | .rng3 a b s, ρ => (ev a ρ).bind fun p => (ev b p.2).bind fun q => (ev s q.2).bind fun u => match p.1, q.1, u.1 with
    | .d (.int i), .d (.int j), .d (.int k) => (rangeS i j k).map fun xs => (xs, u.2)
    | _, _, _ => none
end
end
end DI

/-! DI2: statements, functions, the levels. -/
namespace DI
open PySem

inductive Fl where
  | nx
  | rt (r : R)
  | bk
  | ct
/-- a for over items -/
def forL (f : PyData → Rho → Option (Fl × Rho)) : List PyData → Rho → Option (Fl × Rho)
  | [], ρ => some (.nx, ρ)
  | x :: xs, ρ => (f x ρ).bind fun p => match p.1 with
    | .nx => forL f xs p.2
    | .ct => forL f xs p.2
    | .bk => some (.nx, p.2)
    | .rt r => some (.rt r, p.2)
/-- a while, of so many turns at most -/
def whL (c : Rho → Option (Bool × Rho)) (f : Rho → Option (Fl × Rho)) : Nat → Rho → Option (Fl × Rho)
  | 0, _ => none
  | n + 1, ρ => (c ρ).bind fun k => if k.1 = true then (f k.2).bind fun p => (match p.1 with
    | .nx => whL c f n p.2
    | .ct => whL c f n p.2
    | .bk => some (.nx, p.2)
    | .rt r => some (.rt r, p.2)) else some (.nx, k.2)
/-- several names stored at once -/
def setPar (io : List Nat) : List Nat → List R → Rho → Option Rho
  | [], [], ρ => some ρ
  | i :: is, r :: rs, ρ => (setS io i r ρ).bind fun ρ1 => setPar io is rs ρ1
  | _, _, _ => none
/-- what an own list may not be confused with at a return -/
def notTS : Option R → Bool
  | some (.d (.tuple _)) => false
  | some (.s _) => false
  | _ => true
section
variable (Φ : Phi) (wf : Nat) (io : List Nat)
/-- the values of a display, own lists that nobody else has stay own -/
noncomputable def evr : CEs → Rho → Option (List R × Rho)
  | .nil, ρ => some ([], ρ)
  | .cons e r, ρ => (ev Φ e ρ).bind fun p => (evr r p.2).map fun q => (p.1 :: q.1, q.2)
mutual
noncomputable def ex : CS → Rho → Option (Fl × Rho)
  | .nev, _ => none
  | .set i e, ρ => (ev Φ e ρ).bind fun p => (setS io i p.1 p.2).map fun ρ1 => (.nx, ρ1)
  | .asg t e, ρ => (ev Φ e ρ).bind fun p => (toD p.1).bind fun x => (bindT io t x p.2).map fun ρ1 => (.nx, ρ1)
  | .par is es, ρ => (evr Φ es ρ).bind fun p => if is.Nodup then (setPar io is p.1 p.2).map fun ρ1 => (.nx, ρ1) else none
  | .setix i b e, ρ => (ev Φ e ρ).bind fun p => (toD p.1).bind fun x => (gt p.2 i).bind fun _ => (ev Φ b p.2).bind fun q => match gt q.2 i, q.1 with
    | some (.l xs), .d (.int k) => (L2.ixN xs.length k).map fun j => (.nx, q.2.set i (some (.l (xs.set j x))))
    | _, _ => none
  | .aug i o e, ρ => match o, gt ρ i with
    | .add, some (.d (.int a)) => (ev Φ e ρ).bind fun p => match p.1 with
      | .d (.int b) => (setS io i (.d (.int (a + b))) p.2).map fun ρ1 => (.nx, ρ1)
      | _ => none
    | .sub, some (.d (.int a)) => (ev Φ e ρ).bind fun p => match p.1 with
      | .d (.int b) => (setS io i (.d (.int (a - b))) p.2).map fun ρ1 => (.nx, ρ1)
      | _ => none
    | _, _ => none
  | .ret e, ρ => (ev Φ e ρ).map fun p => (.rt p.1, p.2)
  | .retv i, ρ => if i ∈ io ∨ (io.all fun j => notTS (gt ρ j)) = false then none else (gt ρ i).map fun r => (.rt r, ρ)
  | .retn, ρ => some (.rt (.d .none), ρ)
  | .exp e, ρ => (ev Φ e ρ).map fun p => (.nx, p.2)
  | .ifS c a b, ρ => (evT Φ c ρ).bind fun p => if p.1 = true then exs a p.2 else exs b p.2
  | .forS t it body, ρ => (evI Φ it ρ).bind fun p => forL (fun x ρ' => (bindT io t x ρ').bind fun ρ1 => exs body ρ1) p.1 p.2
  | .whileS c body, ρ => whL (fun ρ' => evT Φ c ρ') (fun ρ' => exs body ρ') wf ρ
  | .pass, ρ => some (.nx, ρ)
  | .brk, ρ => some (.bk, ρ)
  | .cont, ρ => some (.ct, ρ)
noncomputable def exs : CSs → Rho → Option (Fl × Rho)
  | .nil, ρ => some (.nx, ρ)
  | .cons s r, ρ => (ex s ρ).bind fun p => match p.1 with
    | .nx => exs r p.2
    | _ => some p
end
end
/-- a def: how many parameters, how many names, which parameters are lent, the body -/
structure FD where
  np : Nat
  n : Nat
  io : List Nat
  body : CSs
def outR (io : List Nat) (ρ : Rho) : Nat → List R → Option (List R)
  | _, [] => some []
  | i, a :: as => (if i ∈ io then gt ρ i else some a).bind fun r => (outR io ρ (i + 1) as).map (r :: ·)
/-- own lists come in lent -/
def lentR (io : List Nat) : Nat → List R → Bool
  | _, [] => true
  | i, .l _ :: as => decide (i ∈ io) && lentR io (i + 1) as
  | i, _ :: as => lentR io (i + 1) as
def retR : Fl → Option R
  | .nx => some (.d .none)
  | .rt r => some r
  | _ => none
noncomputable def runF (Φ : Phi) (wf : Nat) (fd : FD) (args : List R) : Option (R × List R) :=
  if args.length = fd.np ∧ fd.np ≤ fd.n ∧ lentR fd.io 0 args = true then
    (exs Φ wf fd.io fd.body (args.map some ++ List.replicate (fd.n - fd.np) none)).bind fun p =>
      (retR p.1).bind fun r => (outR fd.io p.2 0 args).map fun os => (r, os)
  else none
abbrev Tab := Nat → Option FD
noncomputable def Run (T : Tab) (wf : Nat) : Nat → Phi
  | 0, _, _ => none
  | n + 1, f, args => (T f).bind fun fd => runF (Run T wf n) wf fd args
/-- the script -/
def scr (ns : List Int) : R := .s (ns.map PyData.int)
/-- the law's answer -/
def Yes (φ : List R → Option (R × List R)) (ns : List Int) : Prop := ∃ outs, φ [scr ns] = some (.d (.bool true), outs)
end DI

/-! DIF: the interpreter once more, with fuel, so that it can be run; what it answers, the interpreter answers. -/
namespace DI
open PySem
/-! ### sorting ints -/
def insI (a : Int) : List Int → List Int
  | [] => [a]
  | b :: r => if a ≤ b then a :: b :: r else b :: insI a r
def isort : List Int → List Int
  | [] => []
  | a :: r => insI a (isort r)
theorem insI_perm (a : Int) : ∀ l, (insI a l).Perm (a :: l)
  | [] => .refl _
  | b :: r => by
    rw [insI]
    split
    · exact .refl _
    · exact ((insI_perm a r).cons b).trans (.swap a b r)
theorem isort_perm : ∀ l, (isort l).Perm l
  | [] => .refl _
  | a :: r => (insI_perm a _).trans ((isort_perm r).cons a)
theorem insI_sorted (a : Int) : ∀ l : List Int, l.Pairwise (· ≤ ·) → (insI a l).Pairwise (· ≤ ·)
  | [], _ => List.pairwise_singleton _ _
  | b :: r, h => by
    rw [insI]
    rw [List.pairwise_cons] at h
    split
    · rename_i hab
      exact List.pairwise_cons.mpr ⟨fun x hx => (List.mem_cons.mp hx).elim (fun e => e ▸ hab) fun m => Int.le_trans hab (h.1 x m), List.pairwise_cons.mpr h⟩
    · rename_i hab
      refine List.pairwise_cons.mpr ⟨fun x hx => ?_, insI_sorted a r h.2⟩
      rcases List.mem_cons.mp ((insI_perm a r).mem_iff.mp hx) with e | m
      · subst e; omega
      · exact h.1 x m
theorem isort_sorted : ∀ l, (isort l).Pairwise (· ≤ ·)
  | [] => List.Pairwise.nil
  | a :: r => insI_sorted a _ (isort_sorted r)
theorem sorted_unique : ∀ {l m : List Int}, l.Perm m → l.Pairwise (· ≤ ·) → m.Pairwise (· ≤ ·) → l = m
  | [], m, p, _, _ => (List.nil_perm.mp p).symm
  | a :: r, m, p, h1, h2 => by
    cases m with
    | nil => exact absurd p.length_eq (by simp)
    | cons b s =>
      rw [List.pairwise_cons] at h1 h2
      have e : a = b := by
        have m1 : b ∈ a :: r := p.mem_iff.mpr List.mem_cons_self
        have m2 : a ∈ b :: s := p.mem_iff.mp List.mem_cons_self
        rcases List.mem_cons.mp m1 with e | m1
        · exact e.symm
        · rcases List.mem_cons.mp m2 with e | m2
          · exact e
          · exact Int.le_antisymm (h1.1 b m1) (h2.1 a m2)
      subst e
      rw [sorted_unique (List.Perm.cons_inv p) h1.2 h2.2]
theorem le_ints (a b : Int) : decide (a ≤ b) = PySem.W.dataLe false id (.int a) (.int b) := by
  show _ = (!(decide (b < a) || (!decide (a < b) && false)))
  rw [Bool.and_false, Bool.or_false]
  by_cases h : a ≤ b
  · rw [decide_eq_true h, decide_eq_false (by omega)]
    rfl
  · rw [decide_eq_false h, decide_eq_true (by omega)]
    rfl
theorem merge_ints (ns : List Int) : ns.mergeSort (fun a b => decide (a ≤ b)) = isort ns := by
  refine sorted_unique ((List.mergeSort_perm ns _).trans (isort_perm ns).symm) ?_ (isort_sorted ns)
  have := List.pairwise_mergeSort (le := fun a b : Int => decide (a ≤ b)) (fun a b c h1 h2 => by
    simp only [decide_eq_true_eq] at *
    omega) (fun a b => by
    simp only [Bool.or_eq_true, decide_eq_true_eq]
    omega) ns
  exact this.imp fun h => by simpa using h
theorem sort_ints (ns : List Int) (hl : ns.length ≤ limLen) : sortD (ns.map .int) = some ((isort ns).map .int) := by
  unfold sortD
  rw [if_pos ?_]
  · rw [← List.map_mergeSort (r := fun a b => decide (a ≤ b)) fun a _ b _ => le_ints a b, merge_ints]
  · refine ⟨fun d hd d' hd' => ?_, .inr fun d hd => ?_, by simpa using hl, fun d hd => ?_⟩
    · obtain ⟨a, _, rfl⟩ := List.mem_map.mp hd
      obtain ⟨b, _, rfl⟩ := List.mem_map.mp hd'
      rfl
    · obtain ⟨a, _, rfl⟩ := List.mem_map.mp hd
      exact ⟨fun z => (by cases z), fun xs z => (by cases z)⟩
    · obtain ⟨a, _, rfl⟩ := List.mem_map.mp hd
      simp [PyData.depth]
/-- the sort that can be run: of ints -/
def srtC (xs : List PyData) : Option (List PyData) := if xs.length ≤ limLen then (intsD xs).map fun ns => (isort ns).map .int else none
def biG (srt : List PyData → Option (List PyData)) : Bi → List PyData → Option R
  | .len, [.str x] => if x.length ≤ limLen then some (.d (.int x.length)) else none
  | .len, [.list xs] => some (.d (.int xs.length))
  | .len, [.tuple xs] => some (.d (.int xs.length))
  | .abs, [.int i] => some (.d (.int (if i < 0 then -i else i)))
  | .max2, [.int i, .int j] => some (.d (.int (if j > i then j else i)))
  | .min2, [.int i, .int j] => some (.d (.int (if j < i then j else i)))
  | .sum, [.list xs] => (intsD xs).map fun ns => .d (.int ns.sum)
  | .all, [.list xs] => (boolsD xs).map fun bs => .d (.bool (bs.all id))
  | .any, [.list xs] => (boolsD xs).map fun bs => .d (.bool (bs.any id))
  | .list, [x] => (items x).map .l
  | .tuple, [x] => (items x).map fun xs => .d (.tuple xs)
  | .sorted, [x] => ((items x).bind srt).map .l
  | .int, [.int i] => some (.d (.int i))
  | .int, [.bool b] => some (.d (.int (if b then 1 else 0)))
  | .maxL, [.list xs] => ((intsD xs).bind listMax).map fun m => .d (.int m)
  | .minL, [.list xs] => ((intsD xs).bind listMin).map fun m => .d (.int m)
  | .repr, [x] => if showX x = true ∧ x.hasDict = false ∧ x.depth ≤ 60 ∧ x.shown.length ≤ limLen then some (.d (.str x.shown)) else none
  | .str, [.int i] => if i.natAbs.log2 < 1920 then some (.d (.str (toString i))) else none
  | _, _ => none
/-- the seven evaluators -/
structure Sf where
  ev : CE → Rho → Option (R × Rho)
  evT : CE → Rho → Option (Bool × Rho)
  evs : CEs → Rho → Option (List PyData × Rho)
  evb : CEs → Rho → Option (List Arg × Rho)
  eva : List Bool → CEs → Rho → Option (List Arg × Rho)
  evTs : CEs → Rho → Option (Bool × Rho)
  evI : CI → Rho → Option (List PyData × Rho)
  evC : CCs → Rho → Option (List PyData × Rho)
section
variable (Φ : Phi) (S : Sf)
def s_ev : CE → Rho → Option (R × Rho)
  | .nev, _ => none
  | .lrg1 a, ρ => (S.ev a ρ).bind fun p => match p.1 with
    | .d (.int j) => (rangeL 0 j).map fun r => (r, p.2)
    | _ => none
  | .lrg2 a b, ρ => (S.ev a ρ).bind fun p => (S.ev b p.2).bind fun q => match p.1, q.1 with
    | .d (.int i), .d (.int j) => (rangeL i j).map fun r => (r, q.2)
    | _, _ => none
  | .var i, ρ => match gt ρ i with
    | some (.l xs) => some (.d (.list xs), ρ.set i (some (.d (.list xs))))
    | some r => some (r, ρ)
    | none => none
  | .cst d, ρ => some (.d d, ρ)
  | .glob _ d, ρ => some (.d d, ρ)
  | .bin o a b, ρ => (brw a ρ (S.ev a ρ)).bind fun p => (brw b p.2 (S.ev b p.2)).bind fun q => (rd q.2 p.1).bind fun x => (rd q.2 q.1).bind fun y => (bin o x y).map fun r => (r, q.2)
  | .neg a, ρ => (S.ev a ρ).bind fun p => match p.1 with
    | .d (.int i) => some (.d (.int (-i)), p.2)
    | _ => none
  | .cmp o a b, ρ => (brw a ρ (S.ev a ρ)).bind fun p => (brw b p.2 (S.ev b p.2)).bind fun q => (rd q.2 p.1).bind fun x => (rd q.2 q.1).bind fun y => (cmp o x y).map fun r => (.d (.bool r), q.2)
  | .chain o o2 a b c, ρ => (brw a ρ (S.ev a ρ)).bind fun p => (brw b p.2 (S.ev b p.2)).bind fun q => (rd q.2 p.1).bind fun x => (rd q.2 q.1).bind fun y => (cmp o x y).bind fun k =>
      if k = true then (brw c q.2 (S.ev c q.2)).bind fun s => (rd s.2 q.1).bind fun y' => (rd s.2 s.1).bind fun z => (cmp o2 y' z).map fun r => (.d (.bool r), s.2) else some (.d (.bool false), q.2)
  | .and a b, ρ => (S.ev a ρ).bind fun p => (toD p.1).bind fun x => (tru x).bind fun k => if k = true then S.ev b p.2 else some (.d x, p.2)
  | .or a b, ρ => (S.ev a ρ).bind fun p => (toD p.1).bind fun x => (tru x).bind fun k => if k = true then some (.d x, p.2) else S.ev b p.2
  | .not a, ρ => (brw a ρ (S.ev a ρ)).bind fun p => (rd p.2 p.1).bind fun x => (tru x).map fun k => (.d (.bool (!k)), p.2)
  | .ite c a b, ρ => (S.evT c ρ).bind fun p => if p.1 = true then S.ev a p.2 else S.ev b p.2
  | .tup es, ρ => (S.evs es ρ).bind fun p => if p.1.length ≤ limLen then some (.d (.tuple p.1), p.2) else none
  | .lst es, ρ => (S.evs es ρ).bind fun p => if p.1.length ≤ limLen then some (.l p.1, p.2) else none
  | .call f io es, ρ => (S.eva io es ρ).bind fun p => if (p.1.filterMap Arg.slot?).Nodup then (ras p.2 p.1).bind fun rs => (Φ f rs).map fun q => (q.1, wb p.1 q.2 p.2) else none
  | .callK f io es iok eks ord, ρ => (S.eva io es ρ).bind fun p => (S.eva iok eks p.2).bind fun q => (pick (p.1 ++ q.1) ord).bind fun as => if (as.filterMap Arg.slot?).Nodup then (ras q.2 as).bind fun rs => (Φ f rs).map fun t => (t.1, wb as t.2 q.2) else none
  | .bi b es, ρ => (S.evb es ρ).bind fun p => (rds p.2 p.1).bind fun xs => (biG srtC b xs).map fun r => (r, p.2)
  | .isi t e, ρ => (brw e ρ (S.ev e ρ)).bind fun p => (rd p.2 p.1).bind fun x => match x with
    | .dict _ => none
    | x => some (.d (.bool (isT t x)), p.2)
  | .mu m i es, ρ => match gt ρ i with
    | some (.l _) => (S.evs es ρ).bind fun p => match gt p.2 i with
      | some (.l xs) => (muF m xs p.1).map fun q => (.d q.1, p.2.set i (some (.l q.2)))
      | _ => none
    | _ => none
  | .mt m o es, ρ => (brw o ρ (S.ev o ρ)).bind fun p => (rd p.2 p.1).bind fun x0 => (S.evb es p.2).bind fun q => (rd q.2 p.1).bind fun x => if kindOf x0 = kindOf x then (rds q.2 q.1).bind fun ys => (mtF m x ys).map fun r => (r, q.2) else none
  | .ix a b, ρ => (brw a ρ (S.ev a ρ)).bind fun p => (brw b p.2 (S.ev b p.2)).bind fun q => (rd q.2 p.1).bind fun x => (rd q.2 q.1).bind fun y => (ixF x y).map fun r => (.d r, q.2)
  | .sl a none none, ρ => (brw a ρ (S.ev a ρ)).bind fun p => (rd p.2 p.1).bind fun x => (slF x none none).map fun r => (r, p.2)
  | .sl a (some lo) none, ρ => (brw a ρ (S.ev a ρ)).bind fun p => (S.ev lo p.2).bind fun q => (rd q.2 p.1).bind fun x => (partI q.1).bind fun l => (slF x l none).map fun r => (r, q.2)
  | .sl a none (some hi), ρ => (brw a ρ (S.ev a ρ)).bind fun p => (S.ev hi p.2).bind fun q => (rd q.2 p.1).bind fun x => (partI q.1).bind fun u => (slF x none u).map fun r => (r, q.2)
  | .sl a (some lo) (some hi), ρ => (brw a ρ (S.ev a ρ)).bind fun p => (S.ev lo p.2).bind fun q => (S.ev hi q.2).bind fun s => (rd s.2 p.1).bind fun x => (partI q.1).bind fun l => (partI s.1).bind fun u => (slF x l u).map fun r => (r, s.2)
  | .rev a, ρ => (brw a ρ (S.ev a ρ)).bind fun p => (rd p.2 p.1).bind fun x => match x with
    | .list xs => some (.l xs.reverse, p.2)
    | _ => none
  | .slen i, ρ => match gt ρ i with
    | some (.s xs) => some (.d (.int xs.length), ρ)
    | _ => none
  | .six i b, ρ => match gt ρ i with
    | some (.s xs) => (S.ev b ρ).bind fun q => match q.1 with
      | .d (.int k) => (L2.atI xs k).map fun y => (.d y, q.2)
      | _ => none
    | _ => none
  | .lc own elt t it ifs, ρ => (S.evI it ρ).bind fun p =>
      (lcL (fun x ρ' => (bindT [] t x ρ').bind fun ρ1 => (S.evTs ifs ρ1).bind fun q =>
        if q.1 = true then (S.ev elt q.2).bind fun s => (toD s.1).map fun y => (some y, wipeR s.2 own) else some (none, wipeR q.2 own)) p.1 (wipeR p.2 own)).bind fun r =>
        if r.1.length ≤ limLen then some (.l r.1, restoreR p.2 r.2 own) else none
  | .lc2 own own2 elt t it ifs t2 it2 ifs2, ρ => (S.evI it ρ).bind fun p =>
      (lcC (fun x ρ' => (bindT [] t x ρ').bind fun ρ1 => (S.evTs ifs ρ1).bind fun q =>
        if q.1 = true then (S.evI it2 q.2).bind fun p2 => (lcL (fun x2 ρ2' => (bindT [] t2 x2 ρ2').bind fun ρ3 => (S.evTs ifs2 ρ3).bind fun q2 =>
            if q2.1 = true then (S.ev elt q2.2).bind fun s => (toD s.1).map fun y => (some y, wipeR s.2 own2) else some (none, wipeR q2.2 own2)) p2.1 (wipeR p2.2 own2)).map fun r => (r.1, wipeR r.2 own)
        else some ([], wipeR q.2 own)) p.1 (wipeR p.2 own)).bind fun r =>
        if r.1.length ≤ limLen then some (.l r.1, restoreR p.2 r.2 own) else none
  | .sset a, ρ => (brw a ρ (S.ev a ρ)).bind fun p => (rd p.2 p.1).bind fun x => match x with
    | .list xs => (ssetD xs).map fun ys => (.l ys, p.2)
    | _ => none
  | .cp k own t it ifs r, ρ => (S.evI it ρ).bind fun p =>
      (lcC (fun x ρ' => (bindT [] t x ρ').bind fun ρ1 => (S.evTs ifs ρ1).bind fun q =>
        if q.1 = true then (S.evC r q.2).map fun s => (s.1, wipeR s.2 own) else some ([], wipeR q.2 own)) p.1 (wipeR p.2 own)).bind fun s =>
        (finK k s.1).map fun v => (v, restoreR p.2 s.2 own)
  | .maxd a d, ρ => (brw a ρ (S.ev a ρ)).bind fun p => (S.ev d p.2).bind fun q => (toD q.1).bind fun y => (rd q.2 p.1).bind fun x => match x with
    | .list xs => (maxdD xs y).map fun r => (r, q.2)
    | _ => none
  | .dsp ks es, ρ => (S.evs es ρ).bind fun p => (dspD ks p.1).map fun r => (r, p.2)
  | .dget a x d, ρ => (S.ev a ρ).bind fun p => (kOf p.1).bind fun kvs => (S.ev x p.2).bind fun q => (toD q.1).bind fun y => (S.ev d q.2).bind fun s => (toD s.1).bind fun z => (getD kvs y z).map fun r => (.d r, s.2)
  | .dix a x, ρ => (S.ev a ρ).bind fun p => (kOf p.1).bind fun kvs => (S.ev x p.2).bind fun q => (toD q.1).bind fun y => (dixD kvs y).map fun r => (.d r, q.2)
  | .dzip a b, ρ => (S.ev a ρ).bind fun p => (S.ev b p.2).bind fun q => (toD p.1).bind fun x => (toD q.1).bind fun y => match x, y with
    | .list xs, .list ys => (dzipD xs ys).map fun r => (r, q.2)
    | _, _ => none
  | .gget _ kvs x d, ρ => (S.ev x ρ).bind fun q => (toD q.1).bind fun y => (S.ev d q.2).bind fun s => (toD s.1).bind fun z => (getD kvs y z).map fun r => (.d r, s.2)
  | .gix _ kvs x, ρ => (S.ev x ρ).bind fun q => (toD q.1).bind fun y => (dixD kvs y).map fun r => (.d r, q.2)
  | .ch3 o o2 o3 a b c d, ρ => (brw a ρ (S.ev a ρ)).bind fun p => (brw b p.2 (S.ev b p.2)).bind fun q => (rd q.2 p.1).bind fun x => (rd q.2 q.1).bind fun y => (cmp o x y).bind fun k =>
      if k = true then (brw c q.2 (S.ev c q.2)).bind fun s => (rd s.2 q.1).bind fun y' => (rd s.2 s.1).bind fun z => (cmp o2 y' z).bind fun k2 =>
        if k2 = true then (brw d s.2 (S.ev d s.2)).bind fun u => (rd u.2 s.1).bind fun z' => (rd u.2 u.1).bind fun w => (cmp o3 z' w).map fun r => (.d (.bool r), u.2) else some (.d (.bool false), s.2)
      else some (.d (.bool false), q.2)
  | .rpr t es, ρ => (S.evb es ρ).bind fun p => (rds p.2 p.1).bind fun xs => if xs.length ≤ limLen then (biG srtC .repr [if t = true then .tuple xs else .list xs]).map fun r => (r, p.2) else none
def s_evT : CE → Rho → Option (Bool × Rho)
  | .and a b, ρ => (S.evT a ρ).bind fun p => if p.1 = true then S.evT b p.2 else some (false, p.2)
  | .or a b, ρ => (S.evT a ρ).bind fun p => if p.1 = true then some (true, p.2) else S.evT b p.2
  | .not a, ρ => (S.evT a ρ).map fun p => (!p.1, p.2)
  | .ite _ _ _, _ => none
  | c, ρ => (brw c ρ (S.ev c ρ)).bind fun p => (rd p.2 p.1).bind fun x => (tru x).map fun k => (k, p.2)
def s_evs : CEs → Rho → Option (List PyData × Rho)
  | .nil, ρ => some ([], ρ)
  | .cons e r, ρ => (S.ev e ρ).bind fun p => (toD p.1).bind fun x => (S.evs r p.2).map fun q => (x :: q.1, q.2)
def s_evb : CEs → Rho → Option (List Arg × Rho)
  | .nil, ρ => some ([], ρ)
  | .cons e r, ρ => (brw e ρ (S.ev e ρ)).bind fun p => (S.evb r p.2).map fun q => (p.1 :: q.1, q.2)
def s_eva : List Bool → CEs → Rho → Option (List Arg × Rho)
  | _, .nil, ρ => some ([], ρ)
  | [], .cons e r, ρ => (S.ev e ρ).bind fun p => (S.eva [] r p.2).map fun q => (.v (frz p.1) :: q.1, q.2)
  | k :: io, .cons e r, ρ => (if k = true then brw e ρ (S.ev e ρ) else (S.ev e ρ).map fun p => (.v (frz p.1), p.2)).bind fun p => (S.eva io r p.2).map fun q => (p.1 :: q.1, q.2)
def s_evTs : CEs → Rho → Option (Bool × Rho)
  | .nil, ρ => some (true, ρ)
  | .cons e r, ρ => (S.evT e ρ).bind fun p => if p.1 = true then S.evTs r p.2 else some (false, p.2)
def s_evI : CI → Rho → Option (List PyData × Rho)
  | .val e, ρ => (S.ev e ρ).bind fun p => (toD p.1).bind fun x => (iterD x).map fun xs => (xs, p.2)
  | .rng1 a, ρ => (S.ev a ρ).bind fun p => match p.1 with
    | .d (.int j) => (rangeD 0 j).map fun xs => (xs, p.2)
    | _ => none
  | .rng2 a b, ρ => (S.ev a ρ).bind fun p => (S.ev b p.2).bind fun q => match p.1, q.1 with
    | .d (.int i), .d (.int j) => (rangeD i j).map fun xs => (xs, q.2)
    | _, _ => none
  | .enum e, ρ => (S.ev e ρ).bind fun p => (toD p.1).bind fun x => match x with
    | .list xs => some (enumD xs, p.2)
    | _ => none
  | .zip a b, ρ => (S.ev a ρ).bind fun p => (S.ev b p.2).bind fun q => (toD p.1).bind fun x => (toD q.1).bind fun y => match x, y with
    | .list xs, .list ys => some (zipD xs ys, q.2)
    | _, _ => none
  | .rev e, ρ => (S.ev e ρ).bind fun p => (toD p.1).bind fun x => match x with
    | .list xs => some (xs.reverse, p.2)
    | _ => none
  | .rng3 a b s, ρ => (S.ev a ρ).bind fun p => (S.ev b p.2).bind fun q => (S.ev s q.2).bind fun u => match p.1, q.1, u.1 with
    | .d (.int i), .d (.int j), .d (.int k) => (rangeS i j k).map fun xs => (xs, u.2)
    | _, _, _ => none
def s_evC : CCs → Rho → Option (List PyData × Rho)
  | .last e, ρ => (S.ev e ρ).bind fun s => (toD s.1).map fun y => ([y], s.2)
  | .cons own t it ifs r, ρ => (S.evI it ρ).bind fun p =>
      lcC (fun x ρ' => (bindT [] t x ρ').bind fun ρ1 => (S.evTs ifs ρ1).bind fun q =>
        if q.1 = true then (S.evC r q.2).map fun s => (s.1, wipeR s.2 own) else some ([], wipeR q.2 own)) p.1 (wipeR p.2 own)
def stF : Sf := ⟨s_ev Φ S, s_evT S, s_evs S, s_evb S, s_eva S, s_evTs S, s_evI S, s_evC S⟩
end
def evF (Φ : Phi) : Nat → Sf
  | 0 => ⟨fun _ _ => none, fun _ _ => none, fun _ _ => none, fun _ _ => none, fun _ _ _ => none, fun _ _ => none, fun _ _ => none, fun _ _ => none⟩
  | n + 1 => stF Φ (evF Φ n)
structure Ss where
  ex : CS → Rho → Option (Fl × Rho)
  exs : CSs → Rho → Option (Fl × Rho)
section
variable (E : Sf) (wf : Nat) (io : List Nat) (S : Ss)
def s_evr : CEs → Rho → Option (List R × Rho)
  | .nil, ρ => some ([], ρ)
  | .cons e r, ρ => (E.ev e ρ).bind fun p => (s_evr r p.2).map fun q => (p.1 :: q.1, q.2)
def s_ex : CS → Rho → Option (Fl × Rho)
  | .nev, _ => none
  | .set i e, ρ => (E.ev e ρ).bind fun p => (setS io i p.1 p.2).map fun ρ1 => (.nx, ρ1)
  | .asg t e, ρ => (E.ev e ρ).bind fun p => (toD p.1).bind fun x => (bindT io t x p.2).map fun ρ1 => (.nx, ρ1)
  | .par is es, ρ => (s_evr E es ρ).bind fun p => if is.Nodup then (setPar io is p.1 p.2).map fun ρ1 => (.nx, ρ1) else none
  | .setix i b e, ρ => (E.ev e ρ).bind fun p => (toD p.1).bind fun x => (gt p.2 i).bind fun _ => (E.ev b p.2).bind fun q => match gt q.2 i, q.1 with
    | some (.l xs), .d (.int k) => (L2.ixN xs.length k).map fun j => (.nx, q.2.set i (some (.l (xs.set j x))))
    | _, _ => none
  | .aug i o e, ρ => match o, gt ρ i with
    | .add, some (.d (.int a)) => (E.ev e ρ).bind fun p => match p.1 with
      | .d (.int b) => (setS io i (.d (.int (a + b))) p.2).map fun ρ1 => (.nx, ρ1)
      | _ => none
    | .sub, some (.d (.int a)) => (E.ev e ρ).bind fun p => match p.1 with
      | .d (.int b) => (setS io i (.d (.int (a - b))) p.2).map fun ρ1 => (.nx, ρ1)
      | _ => none
    | _, _ => none
  | .ret e, ρ => (E.ev e ρ).map fun p => (.rt p.1, p.2)
  | .retv i, ρ => if i ∈ io ∨ (io.all fun j => notTS (gt ρ j)) = false then none else (gt ρ i).map fun r => (.rt r, ρ)
  | .retn, ρ => some (.rt (.d .none), ρ)
  | .exp e, ρ => (E.ev e ρ).map fun p => (.nx, p.2)
  | .ifS c a b, ρ => (E.evT c ρ).bind fun p => if p.1 = true then S.exs a p.2 else S.exs b p.2
  | .forS t it body, ρ => (E.evI it ρ).bind fun p => forL (fun x ρ' => (bindT io t x ρ').bind fun ρ1 => S.exs body ρ1) p.1 p.2
  | .whileS c body, ρ => whL (fun ρ' => E.evT c ρ') (fun ρ' => S.exs body ρ') wf ρ
  | .pass, ρ => some (.nx, ρ)
  | .brk, ρ => some (.bk, ρ)
  | .cont, ρ => some (.ct, ρ)
def s_exs : CSs → Rho → Option (Fl × Rho)
  | .nil, ρ => some (.nx, ρ)
  | .cons s r, ρ => (S.ex s ρ).bind fun p => match p.1 with
    | .nx => S.exs r p.2
    | _ => some p
def stG : Ss := ⟨s_ex E wf io S, s_exs S⟩
end
def exF (E : Sf) (wf : Nat) (io : List Nat) : Nat → Ss
  | 0 => ⟨fun _ _ => none, fun _ _ => none⟩
  | n + 1 => stG E wf io (exF E wf io n)
def runFF (k : Nat) (Φ : Phi) (wf : Nat) (fd : FD) (args : List R) : Option (R × List R) :=
  if args.length = fd.np ∧ fd.np ≤ fd.n ∧ lentR fd.io 0 args = true then
    ((exF (evF Φ k) wf fd.io k).exs fd.body (args.map some ++ List.replicate (fd.n - fd.np) none)).bind fun p =>
      (retR p.1).bind fun r => (outR fd.io p.2 0 args).map fun os => (r, os)
  else none
def RunF (k : Nat) (T : Tab) (wf : Nat) : Nat → Phi
  | 0, _, _ => none
  | n + 1, f, args => (T f).bind fun fd => runFF k (RunF k T wf n) wf fd args
/-! ### it answers no more -/
def Le {α : Type} (a b : Option α) : Prop := ∀ x, a = some x → b = some x
theorem Le.refl {α : Type} {a : Option α} : Le a a := fun _ h => h
theorem Le.none {α : Type} {b : Option α} : Le none b := fun _ h => by cases h
theorem Le.bind {α β : Type} {a b : Option α} {f g : α → Option β} (h : Le a b) (k : ∀ x, Le (f x) (g x)) : Le (a.bind f) (b.bind g) := fun y e => by
  obtain ⟨x, h1, h2⟩ := Option.bind_eq_some_iff.mp e
  exact Option.bind_eq_some_iff.mpr ⟨x, h x h1, k x y h2⟩
theorem Le.map {α β : Type} {a b : Option α} {f : α → β} (h : Le a b) : Le (a.map f) (b.map f) := fun y e => by
  obtain ⟨x, h1, h2⟩ := Option.map_eq_some_iff.mp e
  exact Option.map_eq_some_iff.mpr ⟨x, h x h1, h2⟩
theorem Le.ite {α : Type} {c : Prop} [Decidable c] {a b d e : Option α} (h : Le a d) (k : Le b e) : Le (if c then a else b) (if c then d else e) := by
  split
  · exact h
  · exact k
theorem Le.brw {c : CE} {ρ : Rho} {a b : Option (R × Rho)} (h : Le a b) : Le (brw c ρ a) (brw c ρ b) := by
  unfold DI.brw
  split
  · split
    · exact .refl
    · exact h.map
  · exact h.map
theorem Le.lcL {f g : PyData → Rho → Option (Option PyData × Rho)} (h : ∀ x ρ, Le (f x ρ) (g x ρ)) : ∀ (xs : List PyData) (ρ : Rho), Le (lcL f xs ρ) (lcL g xs ρ)
  | [], _ => .refl
  | x :: xs, ρ => by
    rw [DI.lcL, DI.lcL]
    exact (h x ρ).bind fun p => (Le.lcL h xs p.2).map
theorem Le.lcC {f g : PyData → Rho → Option (List PyData × Rho)} (h : ∀ x ρ, Le (f x ρ) (g x ρ)) : ∀ (xs : List PyData) (ρ : Rho), Le (lcC f xs ρ) (lcC g xs ρ)
  | [], _ => .refl
  | x :: xs, ρ => by
    rw [DI.lcC, DI.lcC]
    exact (h x ρ).bind fun p => (Le.lcC h xs p.2).map
theorem Le.forL {f g : PyData → Rho → Option (Fl × Rho)} (h : ∀ x ρ, Le (f x ρ) (g x ρ)) : ∀ (xs : List PyData) (ρ : Rho), Le (forL f xs ρ) (forL g xs ρ)
  | [], _ => .refl
  | x :: xs, ρ => by
    rw [DI.forL, DI.forL]
    refine (h x ρ).bind fun p => ?_
    cases p.1 with
    | nx => exact Le.forL h xs p.2
    | ct => exact Le.forL h xs p.2
    | bk => exact .refl
    | rt r => exact .refl
theorem Le.whL {c d : Rho → Option (Bool × Rho)} {f g : Rho → Option (Fl × Rho)} (hc : ∀ ρ, Le (c ρ) (d ρ)) (h : ∀ ρ, Le (f ρ) (g ρ)) : ∀ (n : Nat) (ρ : Rho), Le (whL c f n ρ) (whL d g n ρ)
  | 0, _ => .refl
  | n + 1, ρ => by
    rw [DI.whL, DI.whL]
    refine (hc ρ).bind fun k => Le.ite ((h k.2).bind fun p => ?_) .refl
    cases p.1 with
    | nx => exact Le.whL hc h n p.2
    | ct => exact Le.whL hc h n p.2
    | bk => exact .refl
    | rt r => exact .refl
/-- one set of evaluators answers no more than another -/
structure LeS (S S' : Sf) : Prop where
  ev : ∀ c ρ, Le (S.ev c ρ) (S'.ev c ρ)
  evT : ∀ c ρ, Le (S.evT c ρ) (S'.evT c ρ)
  evs : ∀ c ρ, Le (S.evs c ρ) (S'.evs c ρ)
  evb : ∀ c ρ, Le (S.evb c ρ) (S'.evb c ρ)
  eva : ∀ io c ρ, Le (S.eva io c ρ) (S'.eva io c ρ)
  evTs : ∀ c ρ, Le (S.evTs c ρ) (S'.evTs c ρ)
  evI : ∀ c ρ, Le (S.evI c ρ) (S'.evI c ρ)
  evC : ∀ c ρ, Le (S.evC c ρ) (S'.evC c ρ)
noncomputable def evW (Φ : Phi) : Sf := ⟨ev Φ, evT Φ, evs Φ, evb Φ, eva Φ, evTs Φ, evI Φ, evC Φ⟩
theorem ints_of {xs : List PyData} {ns : List Int} (h : intsD xs = some ns) : xs = ns.map .int := by
  induction xs generalizing ns with
  | nil => cases h; rfl
  | cons x r ih =>
    cases x <;> first | (cases h; done) | skip
    obtain ⟨ms, h1, rfl⟩ := Option.map_eq_some_iff.mp (show (intsD r).map (_ :: ·) = some ns from h)
    rw [ih h1]
    rfl
theorem srtC_le (xs : List PyData) : Le (srtC xs) (sortD xs) := fun ys h => by
  unfold srtC at h
  split at h
  · rename_i hl
    obtain ⟨ns, h1, rfl⟩ := Option.map_eq_some_iff.mp h
    have := ints_of h1
    subst this
    exact sort_ints ns (by simpa using hl)
  · cases h
theorem biG_le (b : Bi) (xs : List PyData) : Le (biG srtC b xs) (biF b xs) := by
  unfold biG biF
  split <;> first | exact .refl | exact Le.map (Le.bind .refl fun _ => srtC_le _) | exact Le.none
section
variable {Φ Φ' : Phi} {S : Sf}
theorem stF_le (hΦ : ∀ f as, Le (Φ f as) (Φ' f as)) (h : LeS S (evW Φ')) : LeS (stF Φ S) (evW Φ') where
  ev := fun c ρ => by
    show Le (s_ev Φ S c ρ) (ev Φ' c ρ)
    cases c with
    | sl a lo hi =>
      cases lo with
      | none =>
        cases hi with
        | none =>
          rw [ev, s_ev]
          repeat' (first
    | exact Le.refl
    | exact Le.none
    | exact h.ev _ _
    | exact h.evT _ _
    | exact h.evs _ _
    | exact h.evb _ _
    | exact h.eva _ _ _
    | exact h.evTs _ _
    | exact h.evI _ _
    | exact h.evC _ _
    | exact biG_le _ _
    | exact hΦ _ _
    | refine Le.bind ?_ fun _ => ?_
    | refine Le.map ?_
    | refine Le.ite ?_ ?_
    | refine Le.brw ?_
    | refine Le.lcL (fun _ _ => ?_) _ _
    | refine Le.lcC (fun _ _ => ?_) _ _
    | split)
        | some hi =>
          rw [ev, s_ev]
          repeat' (first
    | exact Le.refl
    | exact Le.none
    | exact h.ev _ _
    | exact h.evT _ _
    | exact h.evs _ _
    | exact h.evb _ _
    | exact h.eva _ _ _
    | exact h.evTs _ _
    | exact h.evI _ _
    | exact h.evC _ _
    | exact biG_le _ _
    | exact hΦ _ _
    | refine Le.bind ?_ fun _ => ?_
    | refine Le.map ?_
    | refine Le.ite ?_ ?_
    | refine Le.brw ?_
    | refine Le.lcL (fun _ _ => ?_) _ _
    | refine Le.lcC (fun _ _ => ?_) _ _
    | split)
      | some lo =>
        cases hi with
        | none =>
          rw [ev, s_ev]
          repeat' (first
    | exact Le.refl
    | exact Le.none
    | exact h.ev _ _
    | exact h.evT _ _
    | exact h.evs _ _
    | exact h.evb _ _
    | exact h.eva _ _ _
    | exact h.evTs _ _
    | exact h.evI _ _
    | exact h.evC _ _
    | exact biG_le _ _
    | exact hΦ _ _
    | refine Le.bind ?_ fun _ => ?_
    | refine Le.map ?_
    | refine Le.ite ?_ ?_
    | refine Le.brw ?_
    | refine Le.lcL (fun _ _ => ?_) _ _
    | refine Le.lcC (fun _ _ => ?_) _ _
    | split)
        | some hi =>
          rw [ev, s_ev]
          repeat' (first
    | exact Le.refl
    | exact Le.none
    | exact h.ev _ _
    | exact h.evT _ _
    | exact h.evs _ _
    | exact h.evb _ _
    | exact h.eva _ _ _
    | exact h.evTs _ _
    | exact h.evI _ _
    | exact h.evC _ _
    | exact biG_le _ _
    | exact hΦ _ _
    | refine Le.bind ?_ fun _ => ?_
    | refine Le.map ?_
    | refine Le.ite ?_ ?_
    | refine Le.brw ?_
    | refine Le.lcL (fun _ _ => ?_) _ _
    | refine Le.lcC (fun _ _ => ?_) _ _
    | split)
    | mu m i es =>
      rw [ev, s_ev]
      cases gt ρ i with
      | none => exact .none
      | some q =>
        cases q <;> first
          | exact Le.none
          | (refine Le.bind (h.evs _ _) fun p => ?_
             cases gt p.2 i with
             | none => exact .none
             | some q => cases q <;> first | exact Le.none | exact Le.refl)
    | six i b =>
      rw [ev, s_ev]
      cases gt ρ i with
      | none => exact .none
      | some q =>
        cases q <;> first
          | exact Le.none
          | exact Le.bind (h.ev _ _) fun p => .refl
    | _ =>
      rw [ev, s_ev]
      repeat' (first
    | exact Le.refl
    | exact Le.none
    | exact h.ev _ _
    | exact h.evT _ _
    | exact h.evs _ _
    | exact h.evb _ _
    | exact h.eva _ _ _
    | exact h.evTs _ _
    | exact h.evI _ _
    | exact h.evC _ _
    | exact biG_le _ _
    | exact hΦ _ _
    | refine Le.bind ?_ fun _ => ?_
    | refine Le.map ?_
    | refine Le.ite ?_ ?_
    | refine Le.brw ?_
    | refine Le.lcL (fun _ _ => ?_) _ _
    | refine Le.lcC (fun _ _ => ?_) _ _
    | split)
  evT := fun c ρ => by
    show Le (s_evT S c ρ) (evT Φ' c ρ)
    cases c <;> (rw [evT, s_evT]; repeat' (first
    | exact Le.refl
    | exact Le.none
    | exact h.ev _ _
    | exact h.evT _ _
    | exact h.evs _ _
    | exact h.evb _ _
    | exact h.eva _ _ _
    | exact h.evTs _ _
    | exact h.evI _ _
    | exact h.evC _ _
    | exact biG_le _ _
    | exact hΦ _ _
    | refine Le.bind ?_ fun _ => ?_
    | refine Le.map ?_
    | refine Le.ite ?_ ?_
    | refine Le.brw ?_
    | refine Le.lcL (fun _ _ => ?_) _ _
    | refine Le.lcC (fun _ _ => ?_) _ _
    | split)) <;> (intros; contradiction)
  evs := fun c ρ => by
    show Le (s_evs S c ρ) (evs Φ' c ρ)
    cases c <;> (rw [evs, s_evs]; repeat' (first
    | exact Le.refl
    | exact Le.none
    | exact h.ev _ _
    | exact h.evT _ _
    | exact h.evs _ _
    | exact h.evb _ _
    | exact h.eva _ _ _
    | exact h.evTs _ _
    | exact h.evI _ _
    | exact h.evC _ _
    | exact biG_le _ _
    | exact hΦ _ _
    | refine Le.bind ?_ fun _ => ?_
    | refine Le.map ?_
    | refine Le.ite ?_ ?_
    | refine Le.brw ?_
    | refine Le.lcL (fun _ _ => ?_) _ _
    | refine Le.lcC (fun _ _ => ?_) _ _
    | split))
  evb := fun c ρ => by
    show Le (s_evb S c ρ) (evb Φ' c ρ)
    cases c <;> (rw [evb, s_evb]; repeat' (first
    | exact Le.refl
    | exact Le.none
    | exact h.ev _ _
    | exact h.evT _ _
    | exact h.evs _ _
    | exact h.evb _ _
    | exact h.eva _ _ _
    | exact h.evTs _ _
    | exact h.evI _ _
    | exact h.evC _ _
    | exact biG_le _ _
    | exact hΦ _ _
    | refine Le.bind ?_ fun _ => ?_
    | refine Le.map ?_
    | refine Le.ite ?_ ?_
    | refine Le.brw ?_
    | refine Le.lcL (fun _ _ => ?_) _ _
    | refine Le.lcC (fun _ _ => ?_) _ _
    | split))
  eva := fun io c ρ => by
    show Le (s_eva S io c ρ) (eva Φ' io c ρ)
    cases io <;> cases c <;> (rw [eva, s_eva]; repeat' (first
    | exact Le.refl
    | exact Le.none
    | exact h.ev _ _
    | exact h.evT _ _
    | exact h.evs _ _
    | exact h.evb _ _
    | exact h.eva _ _ _
    | exact h.evTs _ _
    | exact h.evI _ _
    | exact h.evC _ _
    | exact biG_le _ _
    | exact hΦ _ _
    | refine Le.bind ?_ fun _ => ?_
    | refine Le.map ?_
    | refine Le.ite ?_ ?_
    | refine Le.brw ?_
    | refine Le.lcL (fun _ _ => ?_) _ _
    | refine Le.lcC (fun _ _ => ?_) _ _
    | split))
  evTs := fun c ρ => by
    show Le (s_evTs S c ρ) (evTs Φ' c ρ)
    cases c <;> (rw [evTs, s_evTs]; repeat' (first
    | exact Le.refl
    | exact Le.none
    | exact h.ev _ _
    | exact h.evT _ _
    | exact h.evs _ _
    | exact h.evb _ _
    | exact h.eva _ _ _
    | exact h.evTs _ _
    | exact h.evI _ _
    | exact h.evC _ _
    | exact biG_le _ _
    | exact hΦ _ _
    | refine Le.bind ?_ fun _ => ?_
    | refine Le.map ?_
    | refine Le.ite ?_ ?_
    | refine Le.brw ?_
    | refine Le.lcL (fun _ _ => ?_) _ _
    | refine Le.lcC (fun _ _ => ?_) _ _
    | split))
  evI := fun c ρ => by
    show Le (s_evI S c ρ) (evI Φ' c ρ)
    cases c <;> (rw [evI, s_evI]; repeat' (first
    | exact Le.refl
    | exact Le.none
    | exact h.ev _ _
    | exact h.evT _ _
    | exact h.evs _ _
    | exact h.evb _ _
    | exact h.eva _ _ _
    | exact h.evTs _ _
    | exact h.evI _ _
    | exact h.evC _ _
    | exact biG_le _ _
    | exact hΦ _ _
    | refine Le.bind ?_ fun _ => ?_
    | refine Le.map ?_
    | refine Le.ite ?_ ?_
    | refine Le.brw ?_
    | refine Le.lcL (fun _ _ => ?_) _ _
    | refine Le.lcC (fun _ _ => ?_) _ _
    | split))
  evC := fun c ρ => by
    show Le (s_evC S c ρ) (evC Φ' c ρ)
    cases c <;> (rw [evC, s_evC]; repeat' (first
    | exact Le.refl
    | exact Le.none
    | exact h.ev _ _
    | exact h.evT _ _
    | exact h.evs _ _
    | exact h.evb _ _
    | exact h.eva _ _ _
    | exact h.evTs _ _
    | exact h.evI _ _
    | exact h.evC _ _
    | exact biG_le _ _
    | exact hΦ _ _
    | refine Le.bind ?_ fun _ => ?_
    | refine Le.map ?_
    | refine Le.ite ?_ ?_
    | refine Le.brw ?_
    | refine Le.lcL (fun _ _ => ?_) _ _
    | refine Le.lcC (fun _ _ => ?_) _ _
    | split))
theorem evF_le (hΦ : ∀ f as, Le (Φ f as) (Φ' f as)) : ∀ n, LeS (evF Φ n) (evW Φ')
  | 0 => ⟨fun _ _ => .none, fun _ _ => .none, fun _ _ => .none, fun _ _ => .none, fun _ _ _ => .none, fun _ _ => .none, fun _ _ => .none, fun _ _ => .none⟩
  | n + 1 => stF_le hΦ (evF_le hΦ n)
end
section
variable {Φ' : Phi} {E : Sf} {S : Ss} {wf : Nat} {io : List Nat}
structure LeT (Φ' : Phi) (wf : Nat) (io : List Nat) (S : Ss) : Prop where
  ex : ∀ c ρ, Le (S.ex c ρ) (ex Φ' wf io c ρ)
  exs : ∀ c ρ, Le (S.exs c ρ) (exs Φ' wf io c ρ)
theorem evr_le (hE : LeS E (evW Φ')) : ∀ (c : CEs) (ρ : Rho), Le (s_evr E c ρ) (evr Φ' c ρ)
  | .nil, ρ => by rw [s_evr, evr]; exact .refl
  | .cons e r, ρ => by
    rw [s_evr, evr]
    exact (hE.ev e ρ).bind fun p => (evr_le hE r p.2).map
theorem stG_le (hE : LeS E (evW Φ')) (h : LeT Φ' wf io S) : LeT Φ' wf io (stG E wf io S) where
  ex := fun c ρ => by
    show Le (s_ex E wf io S c ρ) (DI.ex Φ' wf io c ρ)
    cases c with
    | aug i o e =>
      rw [ex.eq_def, s_ex.eq_def]
      simp only
      cases o <;> first
        | exact Le.none
        | (cases gt ρ i with
           | none => exact Le.none
           | some q =>
             cases q with
             | d x => cases x <;> first | exact Le.none | exact Le.bind (hE.ev _ _) fun p => .refl
             | _ => exact Le.none)
    | setix i b e =>
      rw [ex, s_ex]
      refine Le.bind (hE.ev _ _) fun p => Le.bind .refl fun x => Le.bind .refl fun _ => Le.bind (hE.ev _ _) fun q => .refl
    | _ =>
      rw [ex, s_ex]
      repeat' (first
    | exact Le.refl
    | exact Le.none
    | exact hE.ev _ _
    | exact hE.evT _ _
    | exact hE.evI _ _
    | exact evr_le hE _ _
    | exact h.ex _ _
    | exact h.exs _ _
    | refine Le.bind ?_ fun _ => ?_
    | refine Le.map ?_
    | refine Le.ite ?_ ?_
    | refine Le.forL (fun _ _ => ?_) _ _
    | refine Le.whL (fun _ => ?_) (fun _ => ?_) _ _
    | split)
  exs := fun c ρ => by
    show Le (s_exs S c ρ) (DI.exs Φ' wf io c ρ)
    cases c with
    | nil => rw [exs, s_exs]; exact .refl
    | cons s r =>
      rw [exs, s_exs]
      refine Le.bind (h.ex _ _) fun p => ?_
      cases p.1 with
      | nx => exact h.exs _ _
      | _ => exact .refl
theorem exF_le (hE : LeS E (evW Φ')) : ∀ n, LeT Φ' wf io (exF E wf io n)
  | 0 => ⟨fun _ _ => .none, fun _ _ => .none⟩
  | n + 1 => stG_le hE (exF_le hE n)
theorem runFF_le {Φ : Phi} (hΦ : ∀ f as, Le (Φ f as) (Φ' f as)) (k : Nat) (fd : FD) (args : List R) : Le (runFF k Φ wf fd args) (runF Φ' wf fd args) := by
  unfold runFF runF
  exact Le.ite (Le.bind ((exF_le (evF_le hΦ k) k).exs _ _) fun p => .refl) .refl
theorem RunF_le (k : Nat) (T : Tab) (wf : Nat) : ∀ n f as, Le (RunF k T wf n f as) (Run T wf n f as)
  | 0, _, _ => .none
  | n + 1, f, as => by
    show Le ((T f).bind fun fd => runFF k (RunF k T wf n) wf fd as) ((T f).bind fun fd => runF (Run T wf n) wf fd as)
    exact Le.bind .refl fun fd => runFF_le (RunF_le k T wf n) k fd as
/-- more levels answer no less -/
theorem Run_run {k : Nat} {T : Tab} {n f : Nat} {as : List R} {x : R × List R} (h : RunF k T wf n f as = some x) : Run T wf n f as = some x := RunF_le k T wf n f as x h
end
end DI

/-! DI3: how data lies in the abstract heap; a step of it. -/
namespace DI
open PySem L2

/-- what may be owned -/
def ownO : HO → Bool
  | .frz _ _ => false
  | _ => true
/-- a tuple's object as it is made -/
def tobj (its : Array Value) (n : Nat) : Obj := { cls := .type "tuple", data := .seq its n }
/-- a tuple as it was made: nothing but a tuple -/
def TX (K : PySem.W.Frag) (H : Hp) (a : Addr) (xs : List V) : Prop :=
  ∃ (its : Array Value) (n : Nat), H a = some (.frz (tobj its n) (.tup xs)) ∨ (K.lookup a = some (tobj its n) ∧ its.size ≤ sizeLine ∧ Vals xs its.toList)
theorem TX.sq {K : PySem.W.Frag} {H : Hp} {a : Addr} {xs : List V} (h : TX K H a xs) : SqT K H a xs := by
  obtain ⟨its, n, h | ⟨h1, h2, h3⟩⟩ := h
  · exact .inl (.inr ⟨_, h⟩)
  · exact .inr ⟨_, its, n, h1, rfl, rfl, h2, h3⟩
mutual
/-- v stands for the data; no list of it is among the owned ones -/
inductive Dq (K : PySem.W.Frag) (H : Hp) (O : List Addr) : PyData → V → Prop
  | non : Dq K H O .none .non
  | bl (b : Bool) : Dq K H O (.bool b) (.bl b)
  | int (i : Int) : Dq K H O (.int i) (.int i)
  | str (x : Str) : Dq K H O (.str x) (.str x)
  | lst {a : Addr} {xs : List V} {ds : List PyData} : H a = some (.lst xs) → a ∉ O → DqA K H O ds xs → Dq K H O (.list ds) (.ref a)
  | tup {a : Addr} {xs : List V} {ds : List PyData} : TX K H a xs → DqA K H O ds xs → Dq K H O (.tuple ds) (.ref a)
inductive DqA (K : PySem.W.Frag) (H : Hp) (O : List Addr) : List PyData → List V → Prop
  | nil : DqA K H O [] []
  | cons {d : PyData} {v : V} {ds : List PyData} {vs : List V} : Dq K H O d v → DqA K H O ds vs → DqA K H O (d :: ds) (v :: vs)
end
/-- the owned ones stand there -/
def Ow (H : Hp) (O : List Addr) : Prop := ∀ a ∈ O, ∃ o, H a = some o ∧ ownO o = true
/-- what is not owned stays and is not owned behind -/
structure Ext (H : Hp) (O : List Addr) (H' : Hp) (O' : List Addr) : Prop where
  keep : ∀ a o, H a = some o → a ∉ O → H' a = some o
  out : ∀ a o, H a = some o → a ∉ O → a ∉ O'
section
variable {K : PySem.W.Frag} {H H' : Hp} {O O' : List Addr}
theorem Ext.refl : Ext H O H O := ⟨fun _ _ h _ => h, fun _ _ _ h => h⟩
theorem TX.ext {a : Addr} {xs : List V} (ow : Ow H O) (x : Ext H O H' O') (h : TX K H a xs) : TX K H' a xs := by
  obtain ⟨its, n, h | h⟩ := h
  · refine ⟨its, n, .inl (x.keep _ _ h fun m => ?_)⟩
    obtain ⟨o', e, k⟩ := ow a m
    rw [h] at e; cases e; cases k
  · exact ⟨its, n, .inr h⟩
mutual
theorem Dq.ext (ow : Ow H O) (x : Ext H O H' O') : ∀ {d : PyData} {v : V}, Dq K H O d v → Dq K H' O' d v
  | _, _, .non => .non
  | _, _, .bl b => .bl b
  | _, _, .int i => .int i
  | _, _, .str z => .str z
  | _, _, .lst h n r => .lst (x.keep _ _ h n) (x.out _ _ h n) (DqA.ext ow x r)
  | _, _, .tup h r => .tup (TX.ext ow x h) (DqA.ext ow x r)
theorem DqA.ext (ow : Ow H O) (x : Ext H O H' O') : ∀ {ds : List PyData} {vs : List V}, DqA K H O ds vs → DqA K H' O' ds vs
  | _, _, .nil => .nil
  | _, _, .cons h r => .cons (Dq.ext ow x h) (DqA.ext ow x r)
end
theorem DqA.length : ∀ {ds : List PyData} {vs : List V}, DqA K H O ds vs → ds.length = vs.length
  | _, _, .nil => rfl
  | _, _, .cons _ r => by simp [DqA.length r]
theorem DqA.get : ∀ {ds : List PyData} {vs : List V} {i : Nat} {d : PyData}, DqA K H O ds vs → ds[i]? = some d → ∃ v, vs[i]? = some v ∧ Dq K H O d v
  | _, _, _, _, .nil, e => by simp at e
  | _, _, 0, _, .cons h _, e => by simp at e; subst e; exact ⟨_, rfl, h⟩
  | _, _, i + 1, _, .cons _ r, e => by
    obtain ⟨v, h1, h2⟩ := DqA.get (i := i) r (by simpa using e)
    exact ⟨v, by simpa using h1, h2⟩
theorem DqA.get' : ∀ {ds : List PyData} {vs : List V} {i : Nat} {v : V}, DqA K H O ds vs → vs[i]? = some v → ∃ d, ds[i]? = some d ∧ Dq K H O d v
  | _, _, _, _, .nil, e => by simp at e
  | _, _, 0, _, .cons h _, e => by simp at e; subst e; exact ⟨_, rfl, h⟩
  | _, _, i + 1, _, .cons _ r, e => by
    obtain ⟨v, h1, h2⟩ := DqA.get' (i := i) r (by simpa using e)
    exact ⟨v, by simpa using h1, h2⟩
theorem DqA.append : ∀ {ds es : List PyData} {vs ws : List V}, DqA K H O ds vs → DqA K H O es ws → DqA K H O (ds ++ es) (vs ++ ws)
  | _, _, _, _, .nil, s => s
  | _, _, _, _, .cons h r, s => .cons h (DqA.append r s)
theorem DqA.take : ∀ {ds : List PyData} {vs : List V} (n : Nat), DqA K H O ds vs → DqA K H O (ds.take n) (vs.take n)
  | _, _, 0, _ => .nil
  | _, _, _ + 1, .nil => .nil
  | _, _, n + 1, .cons h r => .cons h (DqA.take n r)
theorem DqA.drop : ∀ {ds : List PyData} {vs : List V} (n : Nat), DqA K H O ds vs → DqA K H O (ds.drop n) (vs.drop n)
  | _, _, 0, r => r
  | _, _, _ + 1, .nil => .nil
  | _, _, n + 1, .cons _ r => DqA.drop n r
theorem DqA.reverse : ∀ {ds : List PyData} {vs : List V}, DqA K H O ds vs → DqA K H O ds.reverse vs.reverse
  | _, _, .nil => .nil
  | _, _, .cons h r => by
    rw [List.reverse_cons, List.reverse_cons]
    exact DqA.append (DqA.reverse r) (.cons h .nil)
theorem DqA.set {d : PyData} {v : V} (h : Dq K H O d v) : ∀ {ds : List PyData} {vs : List V} (i : Nat), DqA K H O ds vs → DqA K H O (ds.set i d) (vs.set i v)
  | _, _, _, .nil => .nil
  | _, _, 0, .cons _ r => .cons h r
  | _, _, i + 1, .cons q r => .cons q (DqA.set h i r)
theorem DqA.dropLast {ds : List PyData} {vs : List V} (h : DqA K H O ds vs) : DqA K H O ds.dropLast vs.dropLast := by
  rw [List.dropLast_eq_take, List.dropLast_eq_take, h.length]
  exact h.take _
theorem DqA.eraseIdx : ∀ {ds : List PyData} {vs : List V} (i : Nat), DqA K H O ds vs → DqA K H O (ds.eraseIdx i) (vs.eraseIdx i)
  | _, _, _, .nil => .nil
  | _, _, 0, .cons _ r => r
  | _, _, i + 1, .cons h r => .cons h (DqA.eraseIdx i r)
theorem DqA.rep {ds : List PyData} {vs : List V} (h : DqA K H O ds vs) : ∀ k : Nat, DqA K H O (List.replicate k ds).flatten (List.replicate k vs).flatten
  | 0 => .nil
  | k + 1 => by
    rw [List.replicate_succ, List.replicate_succ, List.flatten_cons, List.flatten_cons]
    exact h.append (DqA.rep h k)
theorem dqA_ints : ∀ (ns : List Int), DqA K H O (ns.map PyData.int) (ns.map V.int)
  | [] => .nil
  | n :: r => .cons (.int n) (dqA_ints r)
end

/-! ### slots -/
def Own (ρ : Rho) (σ : L2.St) (a : Addr) : Prop := ∃ i xs, gt ρ i = some (.l xs) ∧ σ[i]? = some (some (.ref a))
/-- a list that is only read: locked, or of the written part -/
def SqF (K : PySem.W.Frag) (H : Hp) (a : Addr) (xs : List V) : Prop :=
  (∃ ob, H a = some (.frz ob (.lst xs))) ∨
    ∃ (o : Obj) (its : Array Value) (n : Nat), K.lookup a = some o ∧ o.cls = .type "list" ∧ o.dict = none ∧ o.data = .seq its n ∧ its.size ≤ sizeLine ∧ Vals xs its.toList
theorem SqF.sq {K : PySem.W.Frag} {H : Hp} {a : Addr} {xs : List V} (h : SqF K H a xs) : SqL K H a xs := by
  rcases h with ⟨ob, h⟩ | h
  · exact .inl (.inr ⟨ob, h⟩)
  · exact .inr h
def keyD : L2.Key → PyData
  | .inl i => .int i
  | .inr x => .str x
/-- the pairs of a dict -/
def DkA (K : PySem.W.Frag) (H : Hp) (O : List Addr) (ds : List (PyData × PyData)) (kvs : List (L2.Key × V)) : Prop := ds.map (·.1) = kvs.map (fun kv => keyD kv.1) ∧ DqA K H O (ds.map (·.2)) (kvs.map (·.2))
def RpR (K : PySem.W.Frag) (H : Hp) (O : List Addr) : R → V → Prop
  | .d x, v => Dq K H O x v
  | .l xs, v => ∃ a vs, v = .ref a ∧ a ∈ O ∧ H a = some (.lst vs) ∧ DqA K H O xs vs
  | .s xs, v => ∃ a vs, v = .ref a ∧ SqF K H a vs ∧ DqA K H O xs vs
  | .k ds, v => ∃ a kvs, v = .ref a ∧ a ∉ O ∧ H a = some (.dK kvs) ∧ DkA K H O ds kvs
structure Rp (K : PySem.W.Frag) (H : Hp) (O : List Addr) (ρ : Rho) (σ : L2.St) : Prop where
  len : ρ.length = σ.length
  slot : ∀ i r, gt ρ i = some r → ∃ v, σ[i]? = some (some v) ∧ RpR K H O r v
  apart : ∀ i j xs ys a, gt ρ i = some (.l xs) → gt ρ j = some (.l ys) → σ[i]? = some (some (.ref a)) → σ[j]? = some (some (.ref a)) → i = j
  dom : Ow H O
/-- a step: S, the owned ones that it may change or give up -/
structure Stp (H : Hp) (O : List Addr) (S : Addr → Prop) (H' : Hp) (O' : List Addr) : Prop where
  keep : ∀ a o, H a = some o → ¬ S a → H' a = some o
  dom : ∀ a, H a ≠ none → H' a ≠ none
  pend : ∀ a ∈ O, ¬ S a → a ∈ O'
  new : ∀ a ∈ O', a ∈ O ∨ H a = none
section
variable {K : PySem.W.Frag} {H H1 H2 : Hp} {O O1 O2 : List Addr} {S S1 : Addr → Prop} {ρ ρ1 : Rho} {σ : L2.St}
theorem Stp.refl : Stp H O S H O := ⟨fun _ _ h _ => h, fun _ h => h, fun _ h _ => h, fun _ h => .inl h⟩
theorem Stp.trans (x : Stp H O S H1 O1) (y : Stp H1 O1 S1 H2 O2) (hs : ∀ a, S1 a → S a ∨ H a = none) (ow : Ow H O) : Stp H O S H2 O2 where
  keep := fun a o h n => y.keep a o (x.keep a o h n) fun q => (hs a q).elim n fun z => by rw [h] at z; cases z
  dom := fun a h => y.dom a (x.dom a h)
  pend := fun a h n => y.pend a (x.pend a h n) fun q => (hs a q).elim n fun z => by
    obtain ⟨o, e, _⟩ := ow a h
    rw [e] at z; cases z
  new := fun a h => (y.new a h).elim (fun q => x.new a q) fun z => .inr (by
    cases e : H a with
    | none => rfl
    | some o => exact absurd z (x.dom a (by rw [e]; simp)))
theorem Stp.wide {S' : Addr → Prop} (x : Stp H O S H1 O1) (hs : ∀ a, S a → S' a) : Stp H O S' H1 O1 :=
  ⟨fun a o h n => x.keep a o h fun q => n (hs a q), x.dom, fun a h n => x.pend a h fun q => n (hs a q), x.new⟩
/-- what is not owned stays -/
theorem Stp.ext (x : Stp H O S H1 O1) (hs : ∀ a, S a → a ∈ O) : Ext H O H1 O1 :=
  ⟨fun a o h n => x.keep a o h fun q => n (hs a q), fun a o h n q => (x.new a q).elim n fun z => by rw [h] at z; cases z⟩
theorem Rp.own_mem (r : Rp K H O ρ σ) {a : Addr} (h : Own ρ σ a) : a ∈ O := by
  obtain ⟨i, xs, e, hv⟩ := h
  obtain ⟨v, hv', b, vs, rfl, m, _⟩ := r.slot i _ e
  rw [hv] at hv'
  cases hv'
  exact m
theorem Rp.own_dom (r : Rp K H O ρ σ) {a : Addr} (h : Own ρ σ a) : H a ≠ none := by
  obtain ⟨o, e, _⟩ := r.dom a (r.own_mem h)
  rw [e]; simp
theorem SqF.ext {a : Addr} {vs : List V} (ow : Ow H O) (x : Ext H O H1 O1) (h : SqF K H a vs) : SqF K H1 a vs := by
  rcases h with ⟨ob, h⟩ | h
  · refine .inl ⟨ob, x.keep _ _ h fun m => ?_⟩
    obtain ⟨o, e, k⟩ := ow a m
    rw [h] at e; cases e; cases k
  · exact .inr h
theorem RpR.ext {r : R} {v : V} (ow : Ow H O) (x : Ext H O H1 O1) (hl : ∀ xs, r ≠ .l xs) (h : RpR K H O r v) : RpR K H1 O1 r v := by
  cases r with
  | d y => exact Dq.ext ow x h
  | l xs => exact (hl xs rfl).elim
  | s xs =>
    obtain ⟨a, vs, rfl, q, d⟩ := h
    exact ⟨a, vs, rfl, q.ext ow x, DqA.ext ow x d⟩
  | k ds =>
    obtain ⟨a, kvs, rfl, no, q, e, d⟩ := h
    exact ⟨a, kvs, rfl, x.out _ _ q no, x.keep _ _ q no, e, DqA.ext ow x d⟩
theorem gt_set : ∀ (ρ : Rho) (i : Nat) (o : Option R) (j : Nat), gt (ρ.set i o) j = if i = j ∧ i < ρ.length then o else gt ρ j
  | [], i, o, j => by simp [gt]
  | p :: t, 0, o, 0 => by simp [gt]
  | p :: t, 0, o, j + 1 => by simp [gt]
  | p :: t, i + 1, o, 0 => by simp [gt]
  | p :: t, i + 1, o, j + 1 => by
    rw [List.set_cons_succ, gt, gt_set t i o j, gt]
    simp
theorem gt_lt {ρ : Rho} {i : Nat} {r : R} (h : gt ρ i = some r) : i < ρ.length := by
  rw [gt_some] at h
  exact (List.getElem?_eq_some_iff.mp h).1
/-- a slot that holds no own list stays so by a step of owned ones; an own one too where it is not among the changed -/
theorem Rp.slot_step (r : Rp K H O ρ σ) (x : Stp H O S H1 O1) (hs : ∀ a, S a → a ∈ O) {i : Nat} {q : R} (h : gt ρ i = some q) (hn : ∀ a, σ[i]? = some (some (.ref a)) → (∃ xs, q = .l xs) → ¬ S a) : ∃ v, σ[i]? = some (some v) ∧ RpR K H1 O1 q v := by
  obtain ⟨v, hv, p⟩ := r.slot i q h
  refine ⟨v, hv, ?_⟩
  have e := x.ext hs
  cases q with
  | d y => exact Dq.ext r.dom e p
  | s xs => exact RpR.ext r.dom e (fun _ z => by cases z) p
  | k ds => exact RpR.ext r.dom e (fun _ z => by cases z) p
  | l xs =>
    obtain ⟨a, vs, rfl, m, ha, d⟩ := p
    have n := hn a hv ⟨xs, rfl⟩
    exact ⟨a, vs, rfl, x.pend a m n, x.keep a _ ha n, DqA.ext r.dom e d⟩
/-- a step that changes no own list of a slot -/
theorem Rp.step (r : Rp K H O ρ σ) (x : Stp H O S H1 O1) (hs : ∀ a, S a → a ∈ O ∧ ¬ Own ρ σ a) (ow : Ow H1 O1) : Rp K H1 O1 ρ σ where
  len := r.len
  slot := fun i q h => r.slot_step x (fun a s => (hs a s).1) h fun a hv ⟨xs, e⟩ s => (hs a s).2 ⟨i, xs, by rw [h, e], hv⟩
  apart := r.apart
  dom := ow
/-- one slot gets a new word, at the same address -/
theorem Rp.put (r : Rp K H O ρ σ) (x : Stp H O S H1 O1) {i : Nat} {a : Addr} {xs : List PyData} (hi : gt ρ i = some (.l xs)) (ha : σ[i]? = some (some (.ref a))) (hs : ∀ b, S b → b = a) (ow : Ow H1 O1) {q : R} (hq : RpR K H1 O1 q (.ref a)) :
    Rp K H1 O1 (ρ.set i (some q)) σ where
  len := by rw [List.length_set]; exact r.len
  slot := fun j p h => by
    rw [gt_set] at h
    by_cases c : i = j ∧ i < ρ.length
    · rw [if_pos c] at h
      cases h
      exact ⟨_, by rw [← c.1]; exact ha, hq⟩
    · rw [if_neg c] at h
      have hij : i ≠ j := fun e => c ⟨e, gt_lt hi⟩
      refine r.slot_step x (fun b s => by rw [hs b s]; exact r.own_mem ⟨i, xs, hi, ha⟩) h fun b hv ⟨ys, e⟩ s => ?_
      rw [hs b s] at hv
      subst e
      exact hij (r.apart i j xs ys a hi h ha hv)
  apart := fun j k ys zs b h1 h2 e1 e2 => by
    rw [gt_set] at h1 h2
    by_cases c1 : i = j ∧ i < ρ.length
    · by_cases c2 : i = k ∧ i < ρ.length
      · exact c1.1.symm.trans c2.1
      · rw [if_neg c2] at h2
        have eb : b = a := by
          rw [← c1.1, ha] at e1
          cases e1; rfl
        subst eb
        exact c1.1.symm.trans (r.apart i k xs zs b hi h2 ha e2)
    · rw [if_neg c1] at h1
      by_cases c2 : i = k ∧ i < ρ.length
      · have eb : b = a := by
          rw [← c2.1, ha] at e2
          cases e2; rfl
        subst eb
        exact (r.apart j i ys xs b h1 hi e1 ha).trans c2.1
      · rw [if_neg c2] at h2
        exact r.apart j k ys zs b h1 h2 e1 e2
  dom := ow
/-! ### the steps there are -/
theorem Ow.upd {p : Addr} {o : HO} (ow : Ow H O) (h : ownO o = true) : Ow (upd H p o) O := fun a m => by
  by_cases e : a = p
  · subst e; exact ⟨o, upd_same, h⟩
  · obtain ⟨u, h1, h2⟩ := ow a m
    exact ⟨u, by rw [upd_ne e]; exact h1, h2⟩
theorem Ow.new {p : Addr} {o : HO} (ow : Ow H O) (h : H p = none) : Ow (L2.upd H p o) O := fun a m => by
  obtain ⟨u, h1, h2⟩ := ow a m
  exact ⟨u, by rw [upd_ne (ne_of_none h1 h)]; exact h1, h2⟩
theorem Ow.cons {p : Addr} {o : HO} (ow : Ow H O) (h : H p = some o) (k : ownO o = true) : Ow H (p :: O) := fun a m => by
  rcases List.mem_cons.mp m with e | m
  · subst e; exact ⟨o, h, k⟩
  · exact ow a m
theorem upd_dom {p : Addr} {o : HO} {a : Addr} (h : H a ≠ none) : L2.upd H p o a ≠ none := by
  by_cases e : a = p
  · subst e; rw [upd_same]; simp
  · rw [upd_ne e]; exact h
/-- a new object -/
theorem Stp.new1 {p : Addr} {o : HO} (h : H p = none) : Stp H O S (L2.upd H p o) O :=
  ⟨fun a u e _ => by rw [upd_ne (ne_of_none e h)]; exact e, fun a e => upd_dom e, fun a m _ => m, fun a m => .inl m⟩
/-- a new object, owned -/
theorem Stp.newO {p : Addr} {o : HO} (h : H p = none) : Stp H O S (L2.upd H p o) (p :: O) :=
  ⟨fun a u e _ => by rw [upd_ne (ne_of_none e h)]; exact e, fun a e => upd_dom e, fun a m _ => List.mem_cons_of_mem _ m, fun a m => by
    rcases List.mem_cons.mp m with e | m
    · subst e; exact .inr h
    · exact .inl m⟩
/-- an owned one is written -/
theorem Stp.wr {p : Addr} {o : HO} : Stp H O (fun a => a = p) (L2.upd H p o) O :=
  ⟨fun a u e n => by rw [upd_ne n]; exact e, fun a e => upd_dom e, fun a m _ => m, fun a m => .inl m⟩
def less (O : List Addr) (p : Addr) : List Addr := O.filter fun a => decide (a ≠ p)
theorem mem_less {p a : Addr} : a ∈ less O p ↔ a ∈ O ∧ a ≠ p := by
  unfold less
  rw [List.mem_filter, decide_eq_true_iff]
/-- an owned one is given up -/
theorem Stp.give {p : Addr} : Stp H O (fun a => a = p) H (less O p) :=
  ⟨fun a u e _ => e, fun a e => e, fun a m n => mem_less.mpr ⟨m, n⟩, fun a m => .inl (mem_less.mp m).1⟩
theorem Ow.less {p : Addr} (ow : Ow H O) : Ow H (less O p) := fun a m => ow a (mem_less.mp m).1
/-- a result -/
def RsT (K : PySem.W.Frag) (H0 H : Hp) (O : List Addr) : R → V → Prop
  | .l xs, v => ∃ a vs, v = .ref a ∧ a ∈ O ∧ H0 a = none ∧ H a = some (.lst vs) ∧ DqA K H O xs vs
  | .d x, v => Dq K H O x v
  | .s xs, v => ∃ a vs, v = .ref a ∧ SqF K H a vs ∧ DqA K H O xs vs
  | .k ds, v => ∃ a kvs, v = .ref a ∧ a ∉ O ∧ H a = some (.dK kvs) ∧ DkA K H O ds kvs
/-- a result that was new is given up: data -/
theorem give_new {H0 : Hp} {r : R} {v : V} {x : PyData} (rp : Rp K H O ρ σ) (hS : ∀ a, Own ρ σ a → H0 a ≠ none) (h : RsT K H0 H O r v) (e : toD r = some x) :
    ∃ O', Stp H O (fun a => ¬ Own ρ σ a ∧ H0 a = none ∧ a ∈ O) H O' ∧ Rp K H O' ρ σ ∧ Dq K H O' x v := by
  cases r with
  | d y =>
    cases e
    exact ⟨O, Stp.refl, rp, h⟩
  | s xs => cases e
  | k ds => cases e
  | l xs =>
    cases e
    obtain ⟨a, vs, rfl, m, n0, ha, d⟩ := h
    have no : ¬ Own ρ σ a := fun q => hS a q n0
    have st : Stp H O (fun b => b = a) H (less O a) := Stp.give
    have e := st.ext (S := fun b => b = a) fun b q => by rw [q]; exact m
    refine ⟨less O a, st.wide fun b q => by rw [q]; exact ⟨no, n0, m⟩, rp.step st (fun b q => by rw [q]; exact ⟨m, no⟩) rp.dom.less, ?_⟩
    exact .lst ha (fun q => (mem_less.mp q).2 rfl) (DqA.ext rp.dom e d)
end
end DI

/-! DI4: the readings that are the wish itself; operators. -/
namespace DI
open PySem L2

section
variable (X : Cx)
/-- the canonical readings -/
def twp (e : Expr) : TE := fun σ H Q => ∀ (pins : List (Addr × Obj)) (s : Shared), Inv X pins σ H s → wpAny (model X.prog X.w) X.A (eval e X.env) (EP X pins σ Q) X.xe s
def twt (e : Expr) : TT := fun σ H Q => ∀ (pins : List (Addr × Obj)) (s : Shared), Inv X pins σ H s → wpAny (model X.prog X.w) X.A (isTrue e X.env (eval e X.env)) (TP X pins σ Q) X.xe s
def twa (es : List Expr) : TA := fun σ H Q => ∀ (pos : Pos) (pins : List (Addr × Obj)) (s : Shared), Inv X pins σ H s → wpAny (model X.prog X.w) X.A (spliced (backTo pos (starEach es X.env))) (AP X pins σ Q) X.xe s
def tws (st : Stmt) : TS := fun D σ H => ∀ (pins : List (Addr × Obj)) (s : Shared), Inv X pins σ H s → wpAny (model X.prog X.w) X.A (exec st X.env) (SP X pins D) X.xe s
def twss (st : List Stmt) : TS := fun D σ H => ∀ (pins : List (Addr × Obj)) (s : Shared), Inv X pins σ H s → wpAny (model X.prog X.w) X.A (execs st X.env) (SP X pins D) X.xe s
def twi (tg iter : Expr) : TI := fun σ H R => ∀ (pins : List (Addr × Obj)) (s : Shared), Inv X pins σ H s →
  wpAny (model X.prog X.w) X.A (eval iter X.env) (fun v s1 => wpAny (model X.prog X.w) X.A (pyIter v) (PIE X pins σ tg R) X.xe s1) X.xe s
end
section
variable {X : Cx} {e : Expr} {es : List Expr} {st : Stmt} {sts : List Stmt} {tg iter : Expr}
theorem pe_wp : PE X e (twp X e) := ⟨fun pins s _ _ _ I h => h pins s I⟩
theorem pt_wp : PT X e (twt X e) := ⟨fun pins s _ _ _ I h => h pins s I⟩
theorem pa_wp : PA X es (twa X es) := ⟨fun pos pins s _ _ _ I h => h pos pins s I⟩
theorem ps_wp : PS X st (tws X st) := ⟨fun pins s _ _ _ I h => h pins s I⟩
theorem pss_wp : PSs X sts (twss X sts) := ⟨fun pins s _ _ _ I h => h pins s I⟩
theorem pi_wp : PI X tg iter (twi X tg iter) := ⟨fun pins s _ _ _ I h => h pins s I⟩
theorem of_pe {t : TE} {σ : L2.St} {H : Hp} {Q : VK} (h : PE X e t) (q : t σ H Q) : twp X e σ H Q := fun pins s I => h.run pins s σ H Q I q
theorem of_pt {t : TT} {σ : L2.St} {H : Hp} {Q : Bool → Hp → Prop} (h : PT X e t) (q : t σ H Q) : twt X e σ H Q := fun pins s I => h.run pins s σ H Q I q
theorem of_pa {t : TA} {σ : L2.St} {H : Hp} {Q : List V → Hp → Prop} (h : PA X es t) (q : t σ H Q) : twa X es σ H Q := fun pos pins s I => h.run pos pins s σ H Q I q
theorem of_ps {t : TS} {σ : L2.St} {H : Hp} {D : Ends} (h : PS X st t) (q : t D σ H) : tws X st D σ H := fun pins s I => h.run pins s σ H D I q
theorem of_pss {t : TS} {σ : L2.St} {H : Hp} {D : Ends} (h : PSs X sts t) (q : t D σ H) : twss X sts D σ H := fun pins s I => h.run pins s σ H D I q
end

/-- what a step of an expression leaves -/
structure Nx (K : PySem.W.Frag) (H : Hp) (O : List Addr) (ρ : Rho) (σ : L2.St) (H' : Hp) (O' : List Addr) (ρ' : Rho) : Prop where
  st : Stp H O (Own ρ σ) H' O'
  rp : Rp K H' O' ρ' σ
  ls : ∀ i xs, gt ρ' i = some (.l xs) → ∃ ys, gt ρ i = some (.l ys)
section
variable {K : PySem.W.Frag} {H H1 H2 : Hp} {O O1 O2 : List Addr} {ρ ρ1 ρ2 : Rho} {σ : L2.St}
theorem Nx.own (x : Nx K H O ρ σ H1 O1 ρ1) : ∀ a, Own ρ1 σ a → Own ρ σ a := fun a ⟨i, xs, h1, h2⟩ => by
  obtain ⟨ys, h⟩ := x.ls i xs h1
  exact ⟨i, ys, h, h2⟩
theorem Nx.refl (r : Rp K H O ρ σ) : Nx K H O ρ σ H O ρ := ⟨Stp.refl, r, fun _ _ h => ⟨_, h⟩⟩
theorem Nx.trans (r : Rp K H O ρ σ) (x : Nx K H O ρ σ H1 O1 ρ1) (y : Nx K H1 O1 ρ1 σ H2 O2 ρ2) : Nx K H O ρ σ H2 O2 ρ2 :=
  ⟨x.st.trans y.st (fun a h => .inl (x.own a h)) r.dom, y.rp, fun i xs h => by
    obtain ⟨ys, h⟩ := y.ls i xs h
    exact x.ls i ys h⟩
/-- a step that changes no own list of a slot, behind it the same slots -/
theorem Nx.plain (r : Rp K H O ρ σ) (x : Stp H O (fun _ => False) H1 O1) (ow : Ow H1 O1) : Nx K H O ρ σ H1 O1 ρ :=
  ⟨x.wide fun _ h => h.elim, r.step x (fun _ h => h.elim) ow, fun _ _ h => ⟨_, h⟩⟩
theorem Nx.ext (r : Rp K H O ρ σ) (x : Nx K H O ρ σ H1 O1 ρ1) : Ext H O H1 O1 := x.st.ext fun _ h => r.own_mem h
theorem Nx.base (x : Nx K H O ρ σ H1 O1 ρ1) {a : Addr} (h : H1 a = none) : H a = none := by
  cases e : H a with
  | none => rfl
  | some o => exact absurd h (x.st.dom a (by rw [e]; simp))
/-- pending -/
def RsA (K : PySem.W.Frag) (H0 H : Hp) (O : List Addr) (σ : L2.St) : Arg → V → Prop
  | .s i, v => σ[i]? = some (some v)
  | .v r, v => RsT K H0 H O r v
theorem RsT.nx {H0 : Hp} {r : R} {v : V} (rp : Rp K H O ρ σ) (hS : ∀ a, Own ρ σ a → H0 a ≠ none) (x : Nx K H O ρ σ H1 O1 ρ1) (h : RsT K H0 H O r v) : RsT K H0 H1 O1 r v := by
  have e := x.ext rp
  cases r with
  | d y => exact Dq.ext rp.dom e h
  | s xs =>
    obtain ⟨a, vs, rfl, q, d⟩ := h
    exact ⟨a, vs, rfl, q.ext rp.dom e, DqA.ext rp.dom e d⟩
  | k ds =>
    obtain ⟨a, kvs, rfl, no, q, e1, d⟩ := h
    exact ⟨a, kvs, rfl, e.out _ _ q no, e.keep _ _ q no, e1, DqA.ext rp.dom e d⟩
  | l xs =>
    obtain ⟨a, vs, rfl, m, n0, ha, d⟩ := h
    have no : ¬ Own ρ σ a := fun q => hS a q n0
    exact ⟨a, vs, rfl, x.st.pend a m no, n0, x.st.keep a _ ha no, DqA.ext rp.dom e d⟩
theorem RsA.nx {H0 : Hp} {r : Arg} {v : V} (rp : Rp K H O ρ σ) (hS : ∀ a, Own ρ σ a → H0 a ≠ none) (x : Nx K H O ρ σ H1 O1 ρ1) (h : RsA K H0 H O σ r v) : RsA K H0 H1 O1 σ r v := by
  cases r with
  | s i => exact h
  | v r => exact RsT.nx rp hS x h
theorem RsT.from {H0 H00 : Hp} {r : R} {v : V} (hd : ∀ a, H0 a = none → H00 a = none) (h : RsT K H0 H O r v) : RsT K H00 H O r v := by
  cases r with
  | d y => exact h
  | s xs => exact h
  | k ds => exact h
  | l xs =>
    obtain ⟨a, vs, e, m, n0, ha, d⟩ := h
    exact ⟨a, vs, e, m, hd a n0, ha, d⟩
theorem RsA.from {H0 H00 : Hp} {r : Arg} {v : V} (hd : ∀ a, H0 a = none → H00 a = none) (h : RsA K H0 H O σ r v) : RsA K H00 H O σ r v := by
  cases r with
  | s i => exact h
  | v r => exact RsT.from hd h
/-- to be looked at: data, or an own list -/
def Bq (K : PySem.W.Frag) (H : Hp) (O : List Addr) (x : PyData) (v : V) : Prop :=
  Dq K H O x v ∨ ∃ xs a vs, x = .list xs ∧ v = .ref a ∧ a ∈ O ∧ H a = some (.lst vs) ∧ DqA K H O xs vs
theorem rd_ok {H0 : Hp} {a : Arg} {v : V} {x : PyData} (rp : Rp K H O ρ σ) (h : RsA K H0 H O σ a v) (e : rd ρ a = some x) : Bq K H O x v := by
  cases a with
  | s i =>
    rw [rd] at e
    cases hg : gt ρ i with
    | none => rw [hg] at e; cases e
    | some r =>
      rw [hg] at e
      obtain ⟨u, hu, q⟩ := rp.slot i r hg
      have h' : σ[i]? = some (some v) := h
      rw [h'] at hu
      cases hu
      cases r with
      | d y => cases e; exact .inl q
      | s xs => cases e
      | k ds => cases e
      | l xs =>
        cases e
        obtain ⟨b, vs, r1, r2, r3, r4⟩ := q
        exact .inr ⟨xs, b, vs, rfl, r1, r2, r3, r4⟩
  | v r =>
    have e' : toD r = some x := e
    have h' : RsT K H0 H O r v := h
    cases r with
    | d y => cases e'; exact .inl h'
    | s xs => cases e'
    | k ds => cases e'
    | l xs =>
      cases e'
      obtain ⟨b, vs, r1, r2, _, r3, r4⟩ := h'
      exact .inr ⟨xs, b, vs, rfl, r1, r2, r3, r4⟩
/-! ### what lies there -/
theorem Bq.list {xs : List PyData} {v : V} (h : Bq K H O (.list xs) v) : ∃ a vs, v = .ref a ∧ H a = some (.lst vs) ∧ DqA K H O xs vs := by
  rcases h with h | ⟨ys, a, vs, e, h1, _, h2, h3⟩
  · cases h with
    | lst h1 _ h2 => exact ⟨_, _, rfl, h1, h2⟩
  · cases e
    exact ⟨a, vs, h1, h2, h3⟩
theorem Bq.tup {xs : List PyData} {v : V} (h : Bq K H O (.tuple xs) v) : ∃ a vs, v = .ref a ∧ TX K H a vs ∧ DqA K H O xs vs := by
  rcases h with h | ⟨ys, a, vs, e, _⟩
  · cases h with
    | tup h1 h2 => exact ⟨_, _, rfl, h1, h2⟩
  · cases e
theorem Bq.int {i : Int} {v : V} (h : Bq K H O (.int i) v) : v = .int i := by
  rcases h with h | ⟨ys, a, vs, e, _⟩
  · cases h; rfl
  · cases e
theorem Bq.str {x : Str} {v : V} (h : Bq K H O (.str x) v) : v = .str x := by
  rcases h with h | ⟨ys, a, vs, e, _⟩
  · cases h; rfl
  · cases e
theorem Bq.bl {b : Bool} {v : V} (h : Bq K H O (.bool b) v) : v = .bl b := by
  rcases h with h | ⟨ys, a, vs, e, _⟩
  · cases h; rfl
  · cases e
theorem Bq.non {v : V} (h : Bq K H O .none v) : v = .non := by
  rcases h with h | ⟨ys, a, vs, e, _⟩
  · cases h; rfl
  · cases e
mutual
theorem Dq.dp : ∀ {d : PyData} {v : V}, Dq K H O d v → Dp K H v d
  | _, _, .non => .non
  | _, _, .bl b => .bl b
  | _, _, .int i => .int i
  | _, _, .str x => .str x
  | _, _, .lst h _ r => .lst (SqL.of h) (DqA.dp r)
  | _, _, .tup h r => .tup h.sq (DqA.dp r)
theorem DqA.dp : ∀ {ds : List PyData} {vs : List V}, DqA K H O ds vs → DpAll K H vs ds
  | _, _, .nil => .nil
  | _, _, .cons h r => .cons (Dq.dp h) (DqA.dp r)
end
theorem Bq.dp {d : PyData} {v : V} (h : Bq K H O d v) : Dp K H v d := by
  rcases h with h | ⟨xs, a, vs, rfl, rfl, _, h2, h3⟩
  · exact h.dp
  · exact .lst (SqL.of h2) h3.dp
theorem lim_line {n : Nat} (h : n ≤ limLen) : n ≤ sizeLine := Nat.le_trans h (by decide)

/-! ### what an operation makes -/
/-- r comes behind a step that changes nothing that stood -/
def Mk1 (K : PySem.W.Frag) (H : Hp) (O : List Addr) (r : R) (T : VK → Prop) : Prop :=
  ∀ Q : VK, (∀ v H' O', Stp H O (fun _ => False) H' O' → Ow H' O' → RsT K H H' O' r v → Q v H') → T Q
theorem mk_int {i : Int} {T : VK → Prop} (ow : Ow H O) (h : ∀ Q : VK, Q (.int i) H → T Q) : Mk1 K H O (.d (.int i)) T := fun Q q => h Q (q _ H O Stp.refl ow (.int i))
theorem mk_bl {b : Bool} {T : VK → Prop} (ow : Ow H O) (h : ∀ Q : VK, Q (.bl b) H → T Q) : Mk1 K H O (.d (.bool b)) T := fun Q q => h Q (q _ H O Stp.refl ow (.bl b))
theorem mk_str {x : Str} {T : VK → Prop} (ow : Ow H O) (h : ∀ Q : VK, Q (.str x) H → T Q) : Mk1 K H O (.d (.str x)) T := fun Q q => h Q (q _ H O Stp.refl ow (.str x))
theorem mk_val {x : PyData} {v : V} {T : VK → Prop} (ow : Ow H O) (hx : Dq K H O x v) (h : ∀ Q : VK, Q v H → T Q) : Mk1 K H O (.d x) T := fun Q q => h Q (q _ H O Stp.refl ow hx)
theorem ext_new {p : Addr} {o : HO} (hp : H p = none) : Ext H O (L2.upd H p o) O := (Stp.new1 (S := fun _ => False) hp).ext fun _ h => h.elim
theorem ext_newO {p : Addr} {o : HO} (hp : H p = none) : Ext H O (L2.upd H p o) (p :: O) := (Stp.newO (S := fun _ => False) hp).ext fun _ h => h.elim
/-- a new list -/
theorem mk_lst {xs : List PyData} {vs : List V} {T : VK → Prop} (ow : Ow H O) (d : DqA K H O xs vs) (h : ∀ Q : VK, (∀ p, H p = none → Q (.ref p) (L2.upd H p (.lst vs))) → T Q) : Mk1 K H O (.l xs) T := fun Q q =>
  h Q fun p hp => q _ _ (p :: O) (Stp.newO hp) ((ow.new hp).cons upd_same rfl) ⟨p, vs, rfl, List.mem_cons_self, hp, upd_same, DqA.ext ow (ext_newO hp) d⟩
/-- a new tuple -/
def NewT (H : Hp) (vs : List V) (Q : VK) : Prop := ∀ (p : Addr) (its : Array Value) (n : Nat), H p = none → Q (.ref p) (L2.upd H p (.frz (tobj its n) (.tup vs)))
theorem mk_tup {xs : List PyData} {vs : List V} {T : VK → Prop} (ow : Ow H O) (d : DqA K H O xs vs) (h : ∀ Q : VK, NewT H vs Q → T Q) : Mk1 K H O (.d (.tuple xs)) T := fun Q q =>
  h Q fun p its n hp => q _ _ O (Stp.new1 hp) (ow.new hp) (.tup ⟨its, n, .inl upd_same⟩ (DqA.ext ow (ext_new hp) d))
end
/-! ### tuples as they are made -/
section
variable {X : Cx}
theorem laidT {pins : List (Addr × Obj)} {σ : L2.St} {H : Hp} {s : Shared} {h' : Heap} {tk : Nat} {xs : List V} {us : List Value} {a : Addr} {n : Nat} {Q : VK} (I : Inv X pins σ H s) (k : ∀ b u, s.heap.get? b = some u → h'.get? b = some u) (hp : s.heap.objs.size ≤ a)
    (r : Vals xs us) (z : xs.length ≤ sizeLine) (e : h'.get? a = some { cls := .type "tuple", data := .seq us.toArray n }) (q : NewT H xs Q) : EP X pins σ Q (.ref a) { s with heap := h', toks := tk } :=
  ⟨.ref a, _, I.laid (t' := tk) k hp (show ObjOk X.prog X.w _ h' a (.frz (tobj us.toArray n) (.tup xs)) from ⟨e, z, us, r, _, e, rfl, _, rfl⟩), rfl, q a _ n (I.hok.fresh hp)⟩
def tTupX (t : TA) : TE := fun σ H Q => t σ H fun xs H1 => xs.length ≤ sizeLine ∧ NewT H1 xs Q
theorem pe_tupX {es : List Expr} {t : TA} {pos : Pos} {k0 : Nat} (h : PA X es t) : PE X (.Tuple es k0 pos) (tTupX t) := by
  refine ⟨fun pins s σ H Q I hq => ?_⟩
  have hr := h.run pos pins s σ H _ I hq
  refine wpAny_Tuple_spliced (thn hr fun us s1 hx => ?_)
  obtain ⟨xs, H1, I1, r, z, q⟩ := hx
  exact ⟨by rw [← r.length]; exact z, laidT (tk := s1.toks) I1 (fun b u e => Heap.get?_push_of_some _ e) (Nat.le_refl _) r z (Heap.get?_push_size _ rfl) q⟩
/-- t + u -/
def rCatX (K : PySem.W.Frag) : R2 := fun x y H Q => ∃ a b xs ys, x = .ref a ∧ y = .ref b ∧ SqT K H a xs ∧ SqT K H b ys ∧ xs.length + ys.length ≤ sizeLine ∧
  (xs = [] → Q (.ref b) H) ∧ (xs ≠ [] → ys = [] → Q (.ref a) H) ∧ (xs ≠ [] → ys ≠ [] → NewT H (xs ++ ys) Q)
theorem op_catX : OpR X (binaryOp .Add) (rCatX X.K) := by
  intro pins s σ H x y v u Q I rx ry h
  obtain ⟨a, b, xs, ys, rfl, rfl, ha, hb, hz, q0, q1, q2⟩ := h
  cases rx
  cases ry
  obtain ⟨its, r1, p1, _⟩ := I.tuple ha
  obtain ⟨its2, r2, p2, _⟩ := I.tuple hb
  by_cases hx : xs = []
  · subst hx
    cases r1
    exact L2.cat_tup0 p1 p2 ⟨.ref b, H, I, rfl, q0 rfl⟩
  · have hz' : its.length + its2.length ≤ sizeLine := by rw [← r1.length, ← r2.length]; exact hz
    refine HT.cat_tup p1 p2 (fun z => hx (r1.nil_iff.mp z)) (fun z => ⟨.ref a, H, I, rfl, q1 hx (r2.nil_iff.mp z)⟩) (fun z => ?_) hz'
    exact laidT (tk := s.toks) I (fun b ob q => Heap.get?_push_of_some _ q) (Nat.le_refl _) (r1.append r2) (by rw [List.length_append]; exact hz) (Heap.get?_push_size _ rfl) (q2 hx fun w => z (r2.nil_iff.mpr w))
/-- t * k -/
def rRepX (K : PySem.W.Frag) : R2 := fun x y H Q => ∃ l k xs, x = .ref l ∧ y = .int k ∧ SqT K H l xs ∧ 1 ≤ xs.length ∧ xs.length ≤ 1000 ∧ 2 ≤ k ∧ k ≤ 1000 ∧ NewT H (List.replicate k.toNat xs).flatten Q
theorem op_repX : OpR X (binaryOp .Mult) (rRepX X.K) := by
  intro pins s σ H x y v u Q I rx ry ⟨l, k, xs, ex, ey, ht, z1, z2, k1, k2, q⟩
  subst ex ey
  cases rx
  obtain ⟨t, eu⟩ := ry
  subst eu
  obtain ⟨its, rv, ⟨⟨cls, dd, data, sl⟩, pl, e1, n, e2⟩, hz⟩ := I.tuple ht
  simp only at e1 e2
  subst e1 e2
  have el : its.toArray.size = xs.length := by rw [List.size_toArray, rv.length]
  have em : its.toArray.isEmpty = false := by
    rw [Array.isEmpty_eq_false_iff, ← Array.size_pos_iff, el]
    omega
  have big : ((its.toArray.size : Nat) : Int) * k ≤ 1000000 := by
    rw [el]
    exact Int.le_trans (Int.mul_le_mul_of_nonneg_right (show ((xs.length : Nat) : Int) ≤ 1000 by omega) (by omega)) (by omega)
  have small : k.toNat * xs.length ≤ 1000000 := Nat.mul_le_mul (show k.toNat ≤ 1000 by omega) z2
  have lim : (1000000 : Nat) ≤ sizeLine := by decide
  have flen : (List.replicate k.toNat its).flatten.length ≤ sizeLine := by
    rw [PyProof.Rows.lm_len_rep_flat, ← rv.length]
    omega
  have flen2 : (List.replicate k.toNat xs).flatten.length ≤ sizeLine := by
    rw [PyProof.Rows.lm_len_rep_flat]
    omega
  have g0 : (decide (k < -(2 ^ 63)) || decide (k ≥ 2 ^ 63)) = false := by simp; omega
  have g1 : (its.toArray.isEmpty || k == 1) = false := by rw [em]; simp; omega
  have g2 : (decide (k ≤ 0) || its.toArray.isEmpty) = false := by rw [em]; simp; omega
  have g4 : Builtin.Tuple.tupleTooMany (((its.toArray.size : Nat) : Int) * k) = false := by
    unfold Builtin.Tuple.tupleTooMany
    have : ((1000000 : Nat) : Int) ≤ (sizeLine : Nat) := Int.ofNat_le.mpr lim
    exact decide_eq_false (by omega)
  have mul := tuple_mulW l its.toArray n dd sl k t g0 g1 g2 (by omega) g4 (by rw [size_rep, List.size_toArray]; exact flen)
  refine wpAny_binaryOp_repeat_ref (T := "tuple") (U := "int") (by decide) ⟨_, pl, rfl⟩ (fun s' => typeIs_int s' k t) noFill_tuple_mul F.fills_int_mul F.slot_int_rmul repeat_tuple F.slot_int_index.lookup ?_
  refine call_meets F.slot_int_rmul (typeIs_int s k t) F.entry_int_rmul (F.args_int_rmul_2 _ _) (int_rmul_tuple k t l its.toArray n dd sl) ⟨pl, rfl, ⟨_, pl, rfl⟩, ?_⟩
  refine call_meets F.slot_tuple_mul ⟨_, pl, rfl⟩ F.entry_tuple_mul (F.args_tuple_mul_2 _ _) mul ⟨pl, ?_⟩
  rw [size_rep]
  exact laidT (tk := s.toks) I (fun b ob w => Heap.get?_push_of_some _ w) (Nat.le_refl _) (rv.rep k.toNat) flen2 (Heap.get?_push_size _ rfl) q
/-- t[lo:hi] -/
def rSlX (K : PySem.W.Frag) : V → Option Int → Option Int → Hp → VK → Prop := fun x lo hi H Q => ∃ a xs, x = .ref a ∧ SqT K H a xs ∧
  (HT.sIx xs.length 0 lo = 0 ∧ HT.sIx xs.length xs.length hi = xs.length → Q (.ref a) H) ∧ (¬ (HT.sIx xs.length 0 lo = 0 ∧ HT.sIx xs.length xs.length hi = xs.length) → NewT H (cutV xs lo hi) Q)
theorem sl_tupX : SlR X (rSlX X.K) := by
  intro pins s σ H x v vl vu lo hi sl Q I rx hs pl pu h
  obtain ⟨a, xs, rfl, hx, q1, q2⟩ := h
  cases rx
  obtain ⟨its, r, ht, hz⟩ := I.tuple hx
  have hlen : its.toArray.size = xs.length := by rw [List.size_toArray]; exact r.length.symm
  refine ⟨"tuple", _, PyProof.Rows.slot_tuple_getitem.lookup, ht.typeIs, ?_⟩
  by_cases hw : HT.sIx xs.length 0 lo = 0 ∧ HT.sIx xs.length xs.length hi = xs.length
  · exact L2.getItem_tuple_whole ht hs pl pu (by rw [hlen]; exact hw) ⟨.ref a, H, I, rfl, q1 hw⟩
  · refine HT.getItem_tuple_cut ht hs pl pu (by rw [hlen]; exact hw) ?_ (by rw [hlen]; exact hz)
    have hc : Vals (cutV xs lo hi) ((its.drop (HT.sIx xs.length 0 lo)).take (HT.sIx xs.length xs.length hi - HT.sIx xs.length 0 lo)) := (r.drop _).take _
    rw [hlen]
    exact laidT (tk := s.toks) I (fun b ob q => Heap.get?_push_of_some _ q) (Nat.le_refl _) hc (Nat.le_trans (cutV_length _ _ _) hz) (Heap.get?_push_size _ rfl) (q2 hw)
/-- tuple(x) -/
def rTupX (K : PySem.W.Frag) : List V → Hp → VK → Prop := fun vs H Q => ∃ x, vs = [x] ∧ ((∃ p xs, x = .ref p ∧ SqL K H p xs ∧ NewT H xs Q) ∨ (∃ p xs, x = .ref p ∧ SqT K H p xs ∧ Q (.ref p) H))
theorem cr_tupX : CallR X (.type "tuple") (rTupX X.K) := by
  intro pins s σ H vs us Q I r h
  obtain ⟨x, rfl, h⟩ := h
  obtain ⟨u, rfl, rx⟩ := vals1 r
  rcases h with ⟨p, xs, rfl, hs, q⟩ | ⟨p, xs, rfl, hs, q⟩
  · cases rx
    obtain ⟨its, rv, pl, hz⟩ := I.list hs
    refine call_tuple_list pl.isList (fun h' hk => ?_) (by rw [List.size_toArray, ← rv.length]; exact hz)
    have I1 : Inv X pins σ H { s with heap := h' } := I.kept (t' := s.toks) hk
    exact laidT (s := { s with heap := h' }) (tk := s.toks) I1 (fun b o e => Heap.get?_push_of_some _ e) (Nat.le_refl _) rv hz (Heap.get?_push_size _ rfl) q
  · cases rx
    obtain ⟨its, rv, pl, hz⟩ := I.tuple hs
    exact call_tuple_same pl ⟨.ref p, H, I, rfl, q⟩
end
/-! ### two-place operators -/
def bopE : BOp → Operator
  | .add => .Add | .sub => .Sub | .mul => .Mult | .fdiv => .FloorDiv | .mod => .Mod | .pow => .Pow | .band => .BitAnd | .shl => .LShift | .shr => .RShift
def rStrCat : R2 := fun x y H Q => ∃ i j, x = .str i ∧ y = .str j ∧ i.length + j.length ≤ sizeLine ∧ Q (.str (i ++ j)) H
def rBin (K : PySem.W.Frag) : BOp → R2
  | .add => fun x y H Q => rI0 (fun i j => .int (i + j)) x y H Q ∨ rStrCat x y H Q ∨ rCat x y H Q ∨ rCatX K x y H Q
  | .sub => rI0 fun i j => .int (i - j)
  | .mul => fun x y H Q => rI CMul (fun i j => .int (i * j)) x y H Q ∨ rI CMulW (fun i j => .int (i * j)) x y H Q ∨ rRep x y H Q ∨ rRepX K x y H Q
  | .fdiv => rI CDivW fun i j => .int (i / j)
  | .mod => rI (fun _ j => 0 < j) fun i j => .int (i % j)
  | .pow => rI CPow fun i j => .int (i ^ j.toNat)
  | .band => rI0 fun i j => .int (Builtin.bitAnd i j)
  | .shl => rI CPow fun i j => .int (i * 2 ^ j.toNat)
  | .shr => rI (fun _ j => 0 ≤ j) fun i j => .int (i / 2 ^ j.toNat)
theorem op_bin {X : Cx} (o : BOp) : OpR X (binaryOp (bopE o)) (rBin X.K o) := by
  cases o with
  | add => exact OpR.or op_add (OpR.or op_add_str (OpR.or op_cat op_catX))
  | sub => exact op_sub
  | mul => exact OpR.or op_mul (OpR.or op_mulW (OpR.or op_rep op_repX))
  | fdiv => exact op_fdivW
  | mod => exact op_mod
  | pow => exact op_pow
  | band => exact op_and
  | shl => exact op_shl
  | shr => exact op_shr
section
variable {K : PySem.W.Frag} {H : Hp} {O : List Addr} {x y : PyData} {v u : V} {r : R}
theorem bin_ok (ow : Ow H O) (bx : Bq K H O x v) (hy : Bq K H O y u) : ∀ (o : BOp), bin o x y = some r → Mk1 K H O r fun Q => rBin K o v u H Q := by
  intro o h
  cases o with
  | add =>
    have h' : binAdd x y = some r := by
      rw [bin] at h
      exact h
    unfold binAdd at h'
    split at h'
    · rename_i i j
      cases h'
      rw [bx.int, hy.int]
      exact mk_int ow fun Q q => .inl ⟨i, j, rfl, rfl, q⟩
    · rename_i a b
      split at h'
      · rename_i hl
        cases h'
        rw [bx.str, hy.str]
        exact mk_str ow fun Q q => .inr (.inl ⟨a, b, rfl, rfl, lim_line hl, q⟩)
      · cases h'
    · rename_i xs ys
      split at h'
      · rename_i hl
        cases h'
        obtain ⟨a, vs, rfl, ha, da⟩ := bx.list
        obtain ⟨b, ws, rfl, hb, db⟩ := hy.list
        exact mk_lst ow (da.append db) fun Q q => .inr (.inr (.inl ⟨a, b, vs, ws, rfl, rfl, ha, hb, by rw [← da.length, ← db.length]; exact lim_line hl, q⟩))
      · cases h'
    · rename_i xs ys
      split at h'
      · rename_i hl
        cases h'
        obtain ⟨a, vs, rfl, ha, da⟩ := bx.tup
        obtain ⟨b, ws, rfl, hb, db⟩ := hy.tup
        intro Q q
        have q' := mk_tup ow (da.append db) (fun Q q => q) Q q
        refine .inr (.inr (.inr ⟨a, b, vs, ws, rfl, rfl, ha.sq, hb.sq, by rw [← da.length, ← db.length]; exact lim_line hl, fun e => ?_, fun _ e => ?_, fun _ _ => q'⟩))
        · refine q _ H O Stp.refl ow (.tup hb ?_)
          have e2 : xs = [] := List.length_eq_zero_iff.mp (by rw [da.length, e]; rfl)
          rw [e2]
          exact db
        · refine q _ H O Stp.refl ow (.tup ha ?_)
          have e2 : ys = [] := List.length_eq_zero_iff.mp (by rw [db.length, e]; rfl)
          rw [e2, List.append_nil]
          exact da
      · cases h'
    · cases h'
  | sub =>
    unfold bin at h
    split at h <;> first | contradiction | skip
    rename_i h0
    cases h
    rw [bx.int, hy.int]
    exact mk_int ow fun Q q => ⟨_, _, rfl, rfl, q⟩
  | mul =>
    have h' : binMul x y = some r := by
      rw [bin] at h
      exact h
    unfold binMul at h'
    split at h'
    · rename_i i j
      split at h'
      · rename_i hl
        cases h'
        rw [bx.int, hy.int]
        unfold mulOk m64 at hl
        rw [Bool.or_eq_true, Bool.or_eq_true, Bool.and_eq_true, Bool.and_eq_true, decide_eq_true_iff, decide_eq_true_iff, decide_eq_true_iff, decide_eq_true_iff, decide_eq_true_iff] at hl
        rcases hl with (hl | hl) | hl
        · exact mk_int ow fun Q q => .inl ⟨i, j, rfl, rfl, .inl hl, q⟩
        · exact mk_int ow fun Q q => .inl ⟨i, j, rfl, rfl, .inr hl, q⟩
        · exact mk_int ow fun Q q => .inr (.inl ⟨i, j, rfl, rfl, hl, q⟩)
      · cases h'
    · rename_i xs k
      split at h'
      · rename_i hl
        cases h'
        obtain ⟨a, vs, rfl, ha, da⟩ := bx.list
        rw [hy.int]
        exact mk_lst ow (da.rep _) fun Q q => .inr (.inr (.inl ⟨a, k, vs, rfl, rfl, ha, hl.1, hl.2.1, by rw [← da.length]; exact lim_line hl.2.2, q⟩))
      · cases h'
    · rename_i xs k
      split at h'
      · rename_i hl
        cases h'
        obtain ⟨a, vs, rfl, ha, da⟩ := bx.tup
        rw [hy.int]
        have el := da.length
        exact mk_tup ow (da.rep _) fun Q q => .inr (.inr (.inr ⟨a, k, vs, rfl, rfl, ha.sq, by omega, by omega, hl.2.2.1, hl.2.2.2, q⟩))
      · cases h'
    · cases h'
  | fdiv =>
    unfold bin at h
    split at h <;> first | contradiction | skip
    split at h
    · rename_i hl
      cases h
      rw [bx.int, hy.int]
      exact mk_int ow fun Q q => ⟨_, _, rfl, rfl, hl, q⟩
    · cases h
  | mod =>
    unfold bin at h
    split at h <;> first | contradiction | skip
    split at h
    · rename_i hl
      cases h
      rw [bx.int, hy.int]
      exact mk_int ow fun Q q => ⟨_, _, rfl, rfl, hl, q⟩
    · cases h
  | pow =>
    unfold bin at h
    split at h <;> first | contradiction | skip
    split at h
    · rename_i hl
      cases h
      rw [bx.int, hy.int]
      exact mk_int ow fun Q q => ⟨_, _, rfl, rfl, hl, q⟩
    · cases h
  | band =>
    unfold bin at h
    split at h <;> first | contradiction | skip
    cases h
    rw [bx.int, hy.int]
    exact mk_int ow fun Q q => ⟨_, _, rfl, rfl, q⟩
  | shl =>
    unfold bin at h
    split at h <;> first | contradiction | skip
    split at h
    · rename_i hl
      cases h
      rw [bx.int, hy.int]
      exact mk_int ow fun Q q => ⟨_, _, rfl, rfl, hl, q⟩
    · cases h
  | shr =>
    unfold bin at h
    split at h <;> first | contradiction | skip
    split at h
    · rename_i hl
      cases h
      rw [bx.int, hy.int]
      exact mk_int ow fun Q q => ⟨_, _, rfl, rfl, hl, q⟩
    · cases h
end
end DI

/-! DI5: comparisons, truth, subscripts, slices. -/
namespace DI
open PySem L2
def copE : COp → CmpOp
  | .eq => .Eq | .ne => .NotEq | .lt => .Lt | .le => .LtE | .gt => .Gt | .ge => .GtE | .isin => .In | .notin => .NotIn | .is => .Is | .isnot => .IsNot
def rInS0 (neg : Bool) : R2 := fun x y H Q => ∃ i j, x = .str i ∧ y = .str j ∧ Q (.bl (if neg then !(!(Builtin.Str.occurrences j i 0 j.length 1).isEmpty) else !(Builtin.Str.occurrences j i 0 j.length 1).isEmpty)) H
def rIsN0 (neg : Bool) : R2 := fun x y H Q => y = .non ∧ Q (.bl (if neg then !decide (x = .non) else decide (x = .non))) H
def rCmp (K : PySem.W.Frag) : COp → R2
  | .eq => fun x y H Q => rEqD K x y H Q ∨ rEq x y H Q
  | .ne => fun x y H Q => rNeD K x y H Q ∨ rNe x y H Q
  | .lt => rI0 fun i j => .bl (decide (i < j))
  | .le => rI0 fun i j => .bl (decide (i ≤ j))
  | .gt => rI0 fun i j => .bl (decide (j < i))
  | .ge => rI0 fun i j => .bl (decide (j ≤ i))
  | .isin => fun x y H Q => rInD K x y H Q ∨ rIn K false x y H Q ∨ rInS0 false x y H Q
  | .notin => fun x y H Q => rNotInD K x y H Q ∨ rIn K true x y H Q ∨ rInS0 true x y H Q
  | .is => fun x y H Q => rIsN0 false x y H Q ∨ rIsB x y H Q
  | .isnot => fun x y H Q => rIsN0 true x y H Q ∨ rNotB x y H Q
theorem op_cmp {X : Cx} (hu : X.A.units + 65 < cLine) (o : COp) : OpR X (compareOp (copE o)) (rCmp X.K o) := by
  have hu' : X.A.units + 64 < cLine := by omega
  cases o with
  | eq => exact OpR.or (op_eqD hu') op_eq
  | ne => exact OpR.or (op_neD hu') op_ne
  | lt => exact op_lt
  | le => exact op_le
  | gt => exact op_gt
  | ge => exact op_ge
  | isin => exact OpR.or (op_inD hu) (OpR.or op_in_seq op_in_str)
  | notin => exact OpR.or (op_notInD hu) (OpR.or op_notIn_seq op_notIn_str)
  | is => exact OpR.or op_isN op_isBl
  | isnot => exact OpR.or op_notN op_notBl
section
variable {K : PySem.W.Frag} {H : Hp} {O : List Addr} {x y : PyData} {v u : V} {r : R}
theorem eqV_flat {x y : PyData} {u v : V} (fx : flatD x = true) (fy : flatD y = true) (hx : Dq K H O x u) (hy : Dq K H O y v) : eqV u v = PyData.eqv x y := by
  cases hx <;> cases hy <;> first | (simp [flatD] at fx fy; done) | skip
  all_goals first | rfl | skip
  all_goals (simp [eqV, PyData.eqv]; done)
theorem flatV_of {x : PyData} {u : V} (fx : flatD x = true) (hx : Dq K H O x u) : flatV u = true := by
  cases hx <;> first | rfl | (simp [flatD] at fx; done)
theorem flatV_all : ∀ {xs : List PyData} {us : List V}, xs.all flatD = true → DqA K H O xs us → us.all flatV = true
  | _, _, _, .nil => rfl
  | _, _, f, .cons h r => by
    rw [List.all_cons, Bool.and_eq_true] at f ⊢
    exact ⟨flatV_of f.1 h, flatV_all f.2 r⟩
theorem inV_of {x : PyData} {u : V} (fx : flatD x = true) (hx : Dq K H O x u) : ∀ {xs : List PyData} {us : List V}, xs.all flatD = true → DqA K H O xs us → inV u us = xs.any fun z => PyData.eqv z x
  | _, _, _, .nil => rfl
  | _, _, f, .cons h r => by
    rw [List.all_cons, Bool.and_eq_true] at f
    have e := eqV_flat f.1 fx h hx
    have ih := inV_of fx hx f.2 r
    unfold inV at ih ⊢
    rw [List.any_cons, List.any_cons, e, ih]
theorem Bq.flat {x : PyData} {v : V} (h : Bq K H O x v) (f : flatD x = true) : Dq K H O x v := by
  rcases h with h | ⟨xs, a, vs, rfl, _⟩
  · exact h
  · cases f
theorem bl_if {b : Bool} {k : Bool} {Q : VK} (q : Q (.bl (if k then !b else b)) H) : Q (.bl (if k = true then !b else b)) H := q
theorem cmpIn_ok {b : Bool} (ow : Ow H O) (bx : Bq K H O x v) (hy : Bq K H O y u) (h : cmpIn x y = some b) (Q : VK) :
    (Q (.bl b) H → rCmp K .isin v u H Q) ∧ (Q (.bl (!b)) H → rCmp K .notin v u H Q) := by
  unfold cmpIn at h
  split at h
  · rename_i ys
    split at h
    · rename_i hs
      cases h
      exact ⟨fun q => .inl ⟨x, ys, bx.dp, hy.dp, hs.1, hs.2, q⟩, fun q => .inl ⟨x, ys, bx.dp, hy.dp, hs.1, hs.2, q⟩⟩
    · cases h
  · rename_i ys
    split at h
    · rename_i hs
      cases h
      obtain ⟨a, vs, rfl, ha, da⟩ := hy.tup
      have dx := bx.flat hs.1
      have e := inV_of hs.1 dx hs.2 da
      exact ⟨fun q => .inr (.inl ⟨a, vs, rfl, .inr ha.sq, flatV_of hs.1 dx, flatV_all hs.2 da, by rw [if_neg Bool.false_ne_true, e]; exact q⟩),
        fun q => .inr (.inl ⟨a, vs, rfl, .inr ha.sq, flatV_of hs.1 dx, flatV_all hs.2 da, by rw [if_pos rfl, e]; exact q⟩)⟩
    · cases h
  · rename_i b'
    split at h
    · rename_i a
      cases h
      rw [bx.str, hy.str]
      exact ⟨fun q => .inr (.inr ⟨a, b', rfl, rfl, by rw [if_neg Bool.false_ne_true]; exact q⟩), fun q => .inr (.inr ⟨a, b', rfl, rfl, by rw [if_pos rfl]; exact q⟩)⟩
    · cases h
  · cases h
theorem Bq.none_iff {x : PyData} {v : V} (h : Bq K H O x v) : decide (v = .non) = isNone x := by
  rcases h with h | ⟨xs, a, vs, rfl, rfl, _⟩
  · cases h <;> simp [isNone]
  · simp [isNone]
theorem isD_ok {b : Bool} (bx : Bq K H O x v) (hy : Bq K H O y u) (h : isD x y = some b) (Q : VK) :
    (Q (.bl b) H → rCmp K .is v u H Q) ∧ (Q (.bl (!b)) H → rCmp K .isnot v u H Q) := by
  unfold isD at h
  split at h
  · cases h
    rw [bx.bl, hy.bl]
    exact ⟨fun q => .inr ⟨_, _, rfl, rfl, q⟩, fun q => .inr ⟨_, _, rfl, rfl, q⟩⟩
  · cases h
    rw [hy.non]
    have e := bx.none_iff
    exact ⟨fun q => .inl ⟨rfl, by rw [if_neg Bool.false_ne_true, e]; exact q⟩, fun q => .inl ⟨rfl, by rw [if_pos rfl, e]; exact q⟩⟩
  · cases h
theorem cmpLt_ok {b : Bool} (bx : Bq K H O x v) (hy : Bq K H O y u) (h : cmpLt x y = some b) : ∃ i j, x = .int i ∧ y = .int j ∧ v = .int i ∧ u = .int j ∧ b = decide (i < j) := by
  unfold cmpLt at h
  split at h
  · cases h
    exact ⟨_, _, rfl, rfl, bx.int, hy.int, rfl⟩
  · cases h
theorem cmpLe_ok {b : Bool} (bx : Bq K H O x v) (hy : Bq K H O y u) (h : cmpLe x y = some b) : ∃ i j, x = .int i ∧ y = .int j ∧ v = .int i ∧ u = .int j ∧ b = decide (i ≤ j) := by
  unfold cmpLe at h
  split at h
  · cases h
    exact ⟨_, _, rfl, rfl, bx.int, hy.int, rfl⟩
  · cases h
theorem cmpEq_ok {b : Bool} (h : cmpEq x y = some b) : (SeqAt.shaped x = true ∧ SeqAt.shaped y = true ∧ b = PyData.eqv x y) ∨ ∃ a c, x = .str a ∧ y = .str c ∧ b = decide (a = c) := by
  unfold cmpEq at h
  split at h
  · cases h
    exact .inr ⟨_, _, rfl, rfl, rfl⟩
  · split at h
    · rename_i hs
      cases h
      exact .inl ⟨hs.1, hs.2, rfl⟩
    · cases h
theorem str_dec {a c : Str} : decide (V.str a = V.str c) = decide (a = c) := by
  by_cases h : a = c
  · rw [h, decide_eq_true rfl, decide_eq_true rfl]
  · rw [decide_eq_false h, decide_eq_false fun z => h (V.str.inj z)]
theorem cmp_ok {b : Bool} (ow : Ow H O) (bx : Bq K H O x v) (hy : Bq K H O y u) (o : COp) (h : cmp o x y = some b) (Q : VK) (q : Q (.bl b) H) : rCmp K o v u H Q := by
  cases o with
  | eq =>
    rcases cmpEq_ok (show cmpEq x y = some b from h) with ⟨h1, h2, rfl⟩ | ⟨a, c, rfl, rfl, rfl⟩
    · exact .inl ⟨x, y, bx.dp, hy.dp, h1, h2, q⟩
    · rw [bx.str, hy.str]
      exact .inr ⟨rfl, by rw [str_dec]; exact q⟩
  | ne =>
    obtain ⟨c, hc, rfl⟩ := Option.map_eq_some_iff.mp (show (cmpEq x y).map (!·) = some b from h)
    rcases cmpEq_ok hc with ⟨h1, h2, rfl⟩ | ⟨a, c, rfl, rfl, rfl⟩
    · exact .inl ⟨x, y, bx.dp, hy.dp, h1, h2, q⟩
    · rw [bx.str, hy.str]
      exact .inr ⟨rfl, by rw [str_dec]; exact q⟩
  | lt =>
    obtain ⟨i, j, rfl, rfl, rfl, rfl, rfl⟩ := cmpLt_ok bx hy (show cmpLt x y = some b from h)
    exact ⟨i, j, rfl, rfl, q⟩
  | le =>
    obtain ⟨i, j, rfl, rfl, rfl, rfl, rfl⟩ := cmpLe_ok bx hy (show cmpLe x y = some b from h)
    exact ⟨i, j, rfl, rfl, q⟩
  | gt =>
    obtain ⟨i, j, rfl, rfl, rfl, rfl, rfl⟩ := cmpLt_ok hy bx (show cmpLt y x = some b from h)
    exact ⟨j, i, rfl, rfl, q⟩
  | ge =>
    obtain ⟨i, j, rfl, rfl, rfl, rfl, rfl⟩ := cmpLe_ok hy bx (show cmpLe y x = some b from h)
    exact ⟨j, i, rfl, rfl, q⟩
  | isin => exact (cmpIn_ok ow bx hy (show cmpIn x y = some b from h) Q).1 q
  | notin =>
    obtain ⟨c, hc, rfl⟩ := Option.map_eq_some_iff.mp (show (cmpIn x y).map (!·) = some b from h)
    exact (cmpIn_ok ow bx hy hc Q).2 q
  | is => exact (isD_ok bx hy (show isD x y = some b from h) Q).1 q
  | isnot =>
    obtain ⟨c, hc, rfl⟩ := Option.map_eq_some_iff.mp (show (isD x y).map (!·) = some b from h)
    exact (isD_ok bx hy hc Q).2 q
theorem lenB {n : Nat} : ((n : Int) != 0) = !decide (n = 0) := by
  by_cases h : n = 0
  · subst h; rfl
  · have h2 : ((n : Int) != 0) = true := by simp; omega
    rw [h2, decide_eq_false h]; rfl
theorem DqA.empty {xs : List PyData} {vs : List V} (d : DqA K H O xs vs) : vs.isEmpty = xs.isEmpty := by
  cases d <;> rfl
/-- truth -/
theorem tru_of {k : Bool} (bx : Bq K H O x v) (h : tru x = some k) : TruV K v H k := by
  cases x with
  | none => cases h; rw [bx.non]; rfl
  | bool b => cases h; rw [bx.bl]; rfl
  | int i => cases h; rw [bx.int]; rfl
  | str z =>
    rw [tru] at h
    split at h
    · rename_i hl
      cases h
      rw [bx.str]
      exact ⟨lim_line hl, lenB.symm⟩
    · cases h
  | list xs =>
    cases h
    obtain ⟨a, vs, rfl, ha, da⟩ := bx.list
    exact .inl ⟨vs, SqL.of ha, by rw [da.empty]⟩
  | tuple xs =>
    cases h
    obtain ⟨a, vs, rfl, ha, da⟩ := bx.tup
    exact .inr (.inl ⟨vs, ha.sq, by rw [da.empty]⟩)
  | dict _ => cases h
/-! ### subscripts -/
theorem atI_get2 {xs : List PyData} {vs : List V} {i : Int} {d : PyData} (da : DqA K H O xs vs) (h : atI xs i = some d) : ∃ v, atI vs i = some v ∧ Dq K H O d v := by
  unfold atI at h ⊢
  rw [da.length] at h
  obtain ⟨j, hj, hd⟩ := Option.bind_eq_some_iff.mp h
  obtain ⟨v, hv, q⟩ := da.get hd
  exact ⟨v, by rw [hj]; exact hv, q⟩
theorem ix_ok {d : PyData} (ow : Ow H O) (bx : Bq K H O x v) (hy : Bq K H O y u) (h : ixF x y = some d) : Mk1 K H O (.d d) fun Q => rIx K v u H Q := by
  unfold ixF at h
  split at h
  · obtain ⟨a, vs, rfl, ha, da⟩ := bx.list
    rw [hy.int]
    obtain ⟨w, hw, q⟩ := atI_get2 da h
    exact mk_val ow q fun Q q => .inl ⟨a, vs, _, w, rfl, rfl, SqL.of ha, hw, q⟩
  · obtain ⟨a, vs, rfl, ha, da⟩ := bx.tup
    rw [hy.int]
    obtain ⟨w, hw, q⟩ := atI_get2 da h
    exact mk_val ow q fun Q q => .inr (.inl ⟨a, vs, _, w, rfl, rfl, ha.sq, hw, q⟩)
  · split at h
    · rename_i z i hl
      obtain ⟨c, hc, rfl⟩ := Option.map_eq_some_iff.mp h
      rw [bx.str, hy.int]
      exact mk_str ow fun Q q => .inr (.inr ⟨z, i, c, rfl, rfl, lim_line hl, hc, q⟩)
    · cases h
  · cases h
def rSl (K : PySem.W.Frag) : V → Option Int → Option Int → Hp → VK → Prop := fun x lo hi H Q => rSlL K x lo hi H Q ∨ rSlX K x lo hi H Q
theorem sl_rule {X : Cx} : SlR X (rSl X.K) := SlR.or sl_list sl_tupX
theorem DqA.cut {xs : List PyData} {vs : List V} (d : DqA K H O xs vs) (lo hi : Option Int) : DqA K H O (cutD xs lo hi) (cutV vs lo hi) := by
  unfold cutD cutV
  rw [d.length]
  exact (d.drop _).take _
theorem sl_ok (ow : Ow H O) (bx : Bq K H O x v) {lo hi : Option Int} (h : slF x lo hi = some r) : Mk1 K H O r fun Q => rSl K v lo hi H Q := by
  unfold slF at h
  split at h
  · cases h
    obtain ⟨a, vs, rfl, ha, da⟩ := bx.list
    exact mk_lst ow (da.cut _ _) fun Q q => .inl ⟨a, vs, rfl, SqL.of ha, q⟩
  · rename_i xs
    cases h
    obtain ⟨a, vs, rfl, ha, da⟩ := bx.tup
    intro Q q
    refine .inr ⟨a, vs, rfl, ha.sq, fun c => ?_, fun _ => mk_tup ow (da.cut lo hi) (fun Q q => q) Q q⟩
    refine q _ H O Stp.refl ow (.tup ha ?_)
    have e : cutD xs lo hi = xs := by
      unfold cutD
      rw [da.length, c.1, c.2, List.drop_zero, Nat.sub_zero, ← da.length, List.take_length]
    rw [e]
    exact da
  · cases h
end
end DI

/-! DIR: repr where numbers may have up to 12900 bits. -/
namespace DI
open PySem PySem.Spec PyProof.Rows
def digitsName : Str := "sys.int_max_str_digits"
theorem ns_none {K : PySem.W.Frag} {h : Heap} {a : Addr} {mc : Str → Option Value} {n : Str} (X : K.In h) (G : h.Ns a mc) (e : PySem.W.nsIn K a n = some none) : mc n = none := by
  obtain ⟨o, es, ep, ho, hd, _, hf⟩ := G
  unfold PySem.W.nsIn at e
  split at e
  · rename_i c d es' n' sl q
    have := X _ _ q
    rw [ho] at this
    cases this
    cases hd
    split at e
    · cases e
    · rename_i he
      rw [← hf]
      unfold nsFind findBy
      rw [← Array.find?_toList, he]
      rfl
  · cases e
section
variable {prog : Program} {w : World} {A : Around} {E : Value → Shared → Prop} {s : Shared}
theorem lt_digits {i : Int} (h : i.natAbs.log2 < 12900) : i.natAbs < 10 ^ 4300 := Nat.lt_of_lt_of_le (lt_of_log2 h) pow_lo
theorem body_repr {M : Model} {a : Int} {t : Tok} {E : Value → Shared → Prop} {Q : Fin → Shared → Prop} (hn : s.heap.NoDigits) (ha : a.natAbs.log2 < 12900) (h : Q (.done (.ret (.str (toString a) s.toks))) { s with toks := s.toks + 1 }) :
    wpAny M A (Builtin.«int.__repr__» ⟨[.int a t], []⟩) Q E s := by
  unfold Builtin.«int.__repr__»
  show wpAny _ _ (do let r ← Builtin.overDigitLimit? a; _) _ _ s
  refine wpAny_bind (overDigitLimit_any hn (fun hlt => ?_) (fun hge => absurd (lt_digits ha) (Nat.not_lt.mpr hge)))
  exact wpAny_bind (wpAny_mkStr (wpAny_pure h) (int_text_fits10 hlt))
theorem reprObj_int {a : Int} {t : Tok} {Q : Value → Shared → Prop} (hn : s.heap.NoDigits) (ha : a.natAbs.log2 < 12900) (h : Q (.str (toString a) s.toks) { s with toks := s.toks + 1 }) : wpAny (model prog w) A (pyReprObj (.int a t)) Q E s := by
  have hT : s.TypeIs (.int a t) "int" := typeIs_int s a t
  unfold pyReprObj
  simp only [cRoomFor, show [Value.int a t].any Value.onHeap = false from rfl, Bool.false_eq_true, if_false, pure_bind]
  refine wpAny_bind (wpAny_specialOf (name := Str.ofString "__repr__") hT slot_int_repr.lookup ?_)
  refine wpAny_bind (m := callSpecialIfBound? (.int a t) (Str.ofString "__repr__")) (wpAny_callSpecialIfBound?_slot (name := Str.ofString "__repr__") hT slot_int_repr (wpAny_call (codeAny_call_builtin slot_int_repr.plain entry_int_repr (slot_int_repr.check _ _ _ _ _ _ _ _ hT (args_int_repr _) (body_repr hn ha ?_)))))
  exact wpAny_bind (wpAny_isInstance (T := "str") (b := true) rfl isSubtype_str_str (wpAny_pure h))
end
section
variable {prog : Program} {w : World} {h₀ : Heap}
theorem reprK_int (hn : h₀.NoDigits) {i : Int} {t : Tok} (ha : i.natAbs.log2 < 12900) (as : List Addr) (d : Nat) : ReprK prog w as h₀ d (.int i t) (toString i) := fun base hb A g E s Q hg hcl hu hk hQ => by
  have hn' : base ≤ sizeLine := by omega
  rw [pyReprUnder_leaf (v := .int i t) hn' (fun _ e => nomatch e)]
  unfold pyRepr
  exact wpAny_bind (reprObj_int (hn.keeps hk) ha (wpAny_pure (hQ s.heap _ fun _ _ e => e)))
mutual
theorem reprK_of (hn : h₀.NoDigits) : ∀ {v : Value} {d : PyData} {as : List Addr}, Reads h₀ v d as → showX d = true → d.shown.length ≤ sizeLine → ∃ bs, ReadAtMost h₀ d.depth bs ∧ ReprK prog w bs h₀ d.depth v d.shown
  | _, _, _, .none, _, _ => ⟨[], (fun _ h => nomatch h), by simp only [PyData.shown]; exact .of_is ReprIs.none _ _ _⟩
  | _, _, _, .bool b, _, _ => ⟨[], (fun _ h => nomatch h), by simp only [PyData.shown]; exact .of_is (ReprIs.bool b) _ _ _⟩
  | _, _, _, .int i t, hs, _ => ⟨[], (fun _ h => nomatch h), by simp only [PyData.shown]; exact reprK_int hn (by simpa [showX] using hs) _ _⟩
  | _, _, _, .str x t, _, hz => ⟨[], (fun _ h => nomatch h), by simp only [PyData.shown]; exact .of_is (ReprIs.str x t (by simpa only [PyData.shown] using hz)) _ _ _⟩
  | _, _, _, .list (a := a) (vs := vs) (xs := xs) h1 h2 h3 h4, hs, hz => by
    have hz' : (listText (PyData.shownAll xs)).length ≤ sizeLine := by simpa only [PyData.shown] using hz
    obtain ⟨bs, hb, hk⟩ := reprAllK_of hn h4 (by simpa [showX] using hs) (fun t ht => Nat.le_trans (listText_mem_le ht) hz')
    have r : Reads h₀ (.ref a) (.list xs) _ := .list h1 h2 h3 h4
    have hna : a ∉ bs := not_mem_of_deeper r (by simp only [PyData.depth]; omega) hb
    refine ⟨a :: bs, ReadAtMost.cons r (by simp only [PyData.depth]; omega) hb, ?_⟩
    simp only [PyData.depth, PyData.shown]
    obtain ⟨l⟩ := vs
    cases l with
    | nil =>
      have h4' : ReadsAll h₀ [] xs _ := h4
      cases h4'
      simp only [PyData.shownAll, listText_nil]
      exact ReprK.listEmpty h1 h2 h3
    | cons x l => exact ReprK.list h1 h2 h3 hna (by simpa using hk.length_eq) (fun i y e => hk.item i y (by simpa using e))
  | _, _, _, .tuple (a := a) (xs := xs) h1 h2 h3 h4, hs, hz => by
    have hz' : (tupleText (PyData.shownAll xs)).length ≤ sizeLine := by simpa only [PyData.shown] using hz
    obtain ⟨bs, hb, hk⟩ := reprAllK_of hn h4 (by simpa [showX] using hs) (fun t ht => Nat.le_trans (tupleText_mem_le ht) hz')
    have r : Reads h₀ (.ref a) (.tuple xs) _ := .tuple h1 h2 h3 h4
    have hna : a ∉ bs := not_mem_of_deeper r (by simp only [PyData.depth]; omega) hb
    refine ⟨a :: bs, ReadAtMost.cons r (by simp only [PyData.depth]; omega) hb, ?_⟩
    simp only [PyData.depth, PyData.shown]
    exact ReprK.tuple h1 h2 h3 hna hk
  | _, _, _, .dict _ _ _ _ _, hs, _ => by simp [showX] at hs
theorem reprAllK_of (hn : h₀.NoDigits) : ∀ {vs : List Value} {ds : List PyData} {as : List Addr}, ReadsAll h₀ vs ds as → showXs ds = true → (∀ t ∈ PyData.shownAll ds, t.length ≤ sizeLine) →
    ∃ bs, ReadAtMost h₀ (PyData.depthAll ds) bs ∧ ReprAllK prog w bs h₀ (PyData.depthAll ds) vs (PyData.shownAll ds)
  | _, _, _, .nil, _, _ => ⟨[], (fun _ h => nomatch h), by simp only [PyData.shownAll]; exact .nil⟩
  | _, _, _, .cons (d := d) (ds := ds) r rs, hs, hz => by
    have hs' : showX d = true ∧ showXs ds = true := by simpa [showXs] using hs
    obtain ⟨b1, hb1, k1⟩ := reprK_of hn r hs'.1 (hz _ (by simp only [PyData.shownAll]; exact List.mem_cons_self ..))
    obtain ⟨b2, hb2, k2⟩ := reprAllK_of hn rs hs'.2 (fun t ht => hz t (by simp only [PyData.shownAll]; exact List.mem_cons_of_mem _ ht))
    refine ⟨b1 ++ b2, ?_, ?_⟩
    · intro b hm
      simp only [PyData.depthAll]
      rcases List.mem_append.mp hm with hm | hm
      · obtain ⟨d', as', r', hd'⟩ := hb1 b hm
        exact ⟨d', as', r', Nat.le_trans hd' (Nat.le_max_left _ _)⟩
      · obtain ⟨d', as', r', hd'⟩ := hb2 b hm
        exact ⟨d', as', r', Nat.le_trans hd' (Nat.le_max_right _ _)⟩
    · simp only [PyData.depthAll, PyData.shownAll]
      exact .cons ((k1.more fun b hb => List.mem_append_left _ hb).level_le (Nat.le_max_left _ _)) (k2.more_le (fun b hb => List.mem_append_right _ hb) (Nat.le_max_right _ _))
end
variable {A : Around} {E : Value → Shared → Prop} {s : Shared} {Q : Value → Shared → Prop}
theorem repr_int (hn : s.heap.NoDigits) {i : Int} {t : Tok} (ha : i.natAbs.log2 < 12900) (hu : A.units + 1 < cLine) (hQ : Q (.str (toString i) s.toks) { s with toks := s.toks + 1 }) : wpAny (model prog w) A (call (.builtin "repr") [.int i t]) Q E s := by
  have hT : s.TypeIs (.int i t) "int" := typeIs_int s i t
  refine call_repr_slot hu hT slot_int_repr.toG ?_
  exact wpAny_call (codeAny_call_builtin slot_int_repr.plain entry_int_repr (slot_int_repr.check _ _ _ _ _ _ _ _ hT (args_int_repr _) (body_repr hn ha ⟨_, _, rfl, hQ⟩)))
theorem repr_ref {a : Addr} {d : PyData} {as : List Addr} (hn : h₀.NoDigits) (r : Reads h₀ (.ref a) d as) (hs : showX d = true) (hg : A.guards = some []) (hu : A.units + (d.depth + 1) < cLine) (hk0 : ∀ b o, h₀.get? b = some o → s.heap.get? b = some o)
    (hQ : ∀ h' u tk, (∀ b o, s.heap.get? b = some o → h'.get? b = some o) → Q (.str d.shown u) { s with heap := h', toks := tk }) (hsz : d.shown.length ≤ sizeLine) : wpAny (model prog w) A (call (.builtin "repr") [.ref a]) Q E s := by
  cases r with
  | list h1 h2 h3 h4 =>
    rename_i o vs n xs bs₀
    have hz' : (listText (PyData.shownAll xs)).length ≤ sizeLine := by simpa only [PyData.shown] using hsz
    obtain ⟨bs, hb, hk⟩ := reprAllK_of (prog := prog) (w := w) hn h4 (by simpa [showX] using hs) (fun t ht => Nat.le_trans (listText_mem_le ht) hz')
    have hna : a ∉ bs := not_mem_of_deeper (.list h1 h2 h3 h4) (by simp only [PyData.depth]; omega) hb
    simp only [PyData.depth] at hu
    simp only [PyData.shown] at hQ
    refine call_repr_slot (by omega) ⟨o, hk0 _ _ h1, h2⟩ F.slot_list_repr.toG ?_
    obtain ⟨l⟩ := vs
    cases l with
    | nil =>
      have h4' : ReadsAll h₀ [] xs _ := h4
      cases h4'
      simp only [PyData.shownAll, listText_nil] at hQ
      exact call_list_repr_empty ⟨o, hk0 _ _ h1, h2⟩ (hk0 _ _ h1) h3 ⟨_, _, rfl, hQ s.heap _ _ fun _ _ e => e⟩
    | cons x l =>
      exact call_list_reprK h1 h2 h3 hna (by simpa using hk.length_eq) (fun i y e => hk.item i y (by simpa using e)) hg (fun b _ => Clear.nil b) (by show A.units + 1 + _ < cLine; omega) hk0 (fun h' u tk hk => ⟨_, _, rfl, hQ h' u tk hk⟩) hz'
  | tuple h1 h2 h3 h4 =>
    rename_i o vs n xs
    have hz' : (tupleText (PyData.shownAll xs)).length ≤ sizeLine := by simpa only [PyData.shown] using hsz
    obtain ⟨bs, hb, hk⟩ := reprAllK_of (prog := prog) (w := w) hn h4 (by simpa [showX] using hs) (fun t ht => Nat.le_trans (tupleText_mem_le ht) hz')
    have hna : a ∉ bs := not_mem_of_deeper (.tuple h1 h2 h3 h4) (by simp only [PyData.depth]; omega) hb
    simp only [PyData.depth] at hu
    simp only [PyData.shown] at hQ
    refine call_repr_slot (by omega) ⟨o, hk0 _ _ h1, h2⟩ F.slot_tuple_repr ?_
    exact call_tuple_reprK h1 h2 h3 hna hk hg (fun b _ => Clear.nil b) (by show A.units + 1 + _ < cLine; omega) hk0 (fun h' u tk hk => ⟨_, _, rfl, hQ h' u tk hk⟩) hz'
  | dict _ _ _ _ _ => simp [showX] at hs
end
end DI

/-! DI6: built-ins by values. -/
namespace DI
open PySem L2

/-! ### sorted -/
section
variable {prog : Program} {w : World} {A : Around} {E : Value → Shared → Prop} {s : Shared}
open PySem.Calls PyProof.Rows PySem.W in
theorem collect_any {l : Addr} {o : Obj} {n : Nat} {T : String} {vs : List Value} {Q : List Value → Shared → Prop} (hT : T = "list" ∨ T = "tuple") (ho : s.heap.get? l = some o) (hc : o.cls = .type T) (hd : o.data = .seq vs.toArray n)
    (h : Q vs { s with heap := (s.heap.push (seqObj "list" #[] 0)).update s.heap.objs.size (Obj.mapSeq (· ++ vs.toArray)) }) (hz : vs.length ≤ sizeLine) :
    wpAny (model prog w) A (collect (.ref l)) Q E s := by
  unfold collect
  refine wpAny_bind (wpAny_runValue (codeAny_builtin entry_proto_collect' ?_))
  show wpAny _ _ (newList [] >>= fun x => again (.builtin "list.__iadd__" ⟨[x, .ref l], []⟩)) _ _ s
  refine wpAny_bind (wpAny_newList ?_)
  refine wpAny_pure ⟨Code.quiet_builtin _ (by decide +kernel), ?_⟩
  refine codeAny_builtin entry_list_iadd' ?_
  have hS : (s.heap.push (seqObj "list" #[] 0)).get? s.heap.objs.size = some (seqObj "list" #[] 0) := Heap.get?_push_size _ rfl
  have h1 : (s.heap.push (seqObj "list" #[] 0)).get? l = some o := Heap.get?_push_of_some _ ho
  have hb : ((Value.type T == Value.type "list") || (Value.type T == Value.type "tuple")) = true := by rcases hT with rfl | rfl <;> rfl
  show wpAny _ _ (Builtin.List.listExtendWith (.ref _) (.ref l) (.ref _)) _ _ { s with heap := s.heap.push (seqObj "list" #[] 0) }
  unfold Builtin.List.listExtendWith
  refine wpAny_bind (wpAny_typeOf (T := T) ⟨o, h1, hc⟩ ?_)
  rw [if_pos (by rcases hT with rfl | rfl <;> simp)]
  refine wpAny_bind (listItems_at h1 hd ?_)
  refine wpAny_bind (listItems_at (n := 0) (xs := #[]) hS rfl ?_)
  rw [if_neg (by simp)]
  have hz2 : (#[] ++ vs.toArray : Array Value).size ≤ sizeLine + 1 := by
    simp only [Array.size_append, List.size_toArray, List.length_nil]
    omega
  refine wpAny_bind (listUpdate_at (n := 0) (xs := #[]) hS rfl ?_ (Nat.zero_le _) hz2)
  refine wpAny_pure ?_
  have hU := get?_update_seq hS (· ++ vs.toArray)
  refine wpAny_bind (wpAny_load hU ?_)
  have e : ((#[] : Array Value) ++ vs.toArray).toList = vs := by simp
  show wpAny _ _ (pure (#[] ++ vs.toArray : Array Value).toList) Q E _
  rw [e]
  exact wpAny_pure h
mutual
theorem reads_lt {h : Heap} : ∀ {v : Value} {d : PyData} {as : List Addr}, Reads h v d as → ∀ a ∈ as, a < h.objs.size
  | _, _, _, .none, a, m => by cases m
  | _, _, _, .bool _, a, m => by cases m
  | _, _, _, .int _ _, a, m => by cases m
  | _, _, _, .str _ _, a, m => by cases m
  | _, _, _, .list h1 _ _ h4, a, m => by
    rcases List.mem_cons.mp m with e | m
    · rw [e]; exact Heap.lt_size h1
    · exact readsAll_lt h4 a m
  | _, _, _, .tuple _ _ _ h4, a, m => readsAll_lt h4 a m
  | _, _, _, .dict h1 _ _ h4 h5, a, m => by
    rcases List.mem_append.mp m with m | m
    · rcases List.mem_cons.mp m with e | m
      · rw [e]; exact Heap.lt_size h1
      · exact readsAll_lt h4 a m
    · exact readsAll_lt h5 a m
theorem readsAll_lt {h : Heap} : ∀ {vs : List Value} {ds : List PyData} {as : List Addr}, ReadsAll h vs ds as → ∀ a ∈ as, a < h.objs.size
  | _, _, _, .nil, a, m => by cases m
  | _, _, _, .cons h1 h2, a, m => by
    rcases List.mem_append.mp m with m | m
    · exact reads_lt h1 a m
    · exact readsAll_lt h2 a m
end
open PySem.Calls PyProof.Rows PySem.W in
/-- sorted of a list or a tuple, by data -/
theorem sorted_any {l : Addr} {o : Obj} {n : Nat} {T : String} {vs : List Value} {bs : List PyData} {R : Value → PyData → Prop} {Q : Value → Shared → Prop} (hT : T = "list" ∨ T = "tuple") (ho : s.heap.get? l = some o) (hc : o.cls = .type T) (hd : o.data = .seq vs.toArray n)
    (e : EachIs R vs bs) (er : EachIs (fun v b => ∃ as, Reads s.heap v b as) vs bs) (hal : AllAlike bs) (hk : Sortable bs) (hL : bs.length ≤ sizeLine) (hu : ∀ b, b ∈ bs → A.units + 3 + b.depth < cLine)
    (h : ∀ (out : List Value) (h' : Heap) (c : Nat), out.length = bs.length → EachIs R out (bs.mergeSort (dataLe false id)) → (∀ b o, s.heap.get? b = some o → h'.get? b = some o) → s.heap.objs.size ≤ s.heap.objs.size + 1 →
      h'.get? (s.heap.objs.size + 1) = some { cls := .type "list", data := .seq out.toArray c } → Q (.ref (s.heap.objs.size + 1)) { s with heap := h' }) :
    wpAny (model prog w) A (call (.builtin "sorted") [.ref l]) Q E s := by
  have hz : vs.length ≤ sizeLine := by rw [e.length]; exact hL
  refine call_function_entry kind_sorted plain_sorted entry_sorted (args_sorted1 _) ?_
  unfold Builtin.«sorted»
  refine wpAny_bind (m := checkCount "sorted" 1 1 _) (wpAny_pure ?_)
  refine wpAny_bind (collect_any hT ho hc hd ?_ hz)
  refine wpAny_bind (wpAny_newList ?_ hz)
  have hsz : ((s.heap.push (seqObj "list" #[] 0)).update s.heap.objs.size (Obj.mapSeq fun x => x ++ vs.toArray)).objs.size = s.heap.objs.size + 1 := by simp [Heap.size_update, size_push']
  show wpAny _ _ _ _ _ { s with heap := copyHeap s.heap vs }
  rw [hsz]
  have er' : EachIs (fun v b => ∃ as, Reads (copyHeap s.heap vs) v (id b) as ∧ (s.heap.objs.size + 1) ∉ as) vs bs := er.mono fun v b q => by
    obtain ⟨as, r⟩ := q
    refine ⟨as, PyProof.Rows.Reads.keeps (fun _ _ z => copyHeap_old z) r, fun m => ?_⟩
    exact absurd (reads_lt r _ m) (Nat.not_lt.mpr (Nat.le_succ _))
  have em : bs.map id = bs := List.map_id bs
  refine wpAny_bind (wpAny_holding (list_sort_data (enc := id) (copyHeap_at s.heap vs) e er' (by rw [em]; exact hal) (by rw [em]; exact hk) hL (fun b m => ?_) fun out h1 h2 => ?_))
  · have := hu b m
    show A.units + 1 + 1 + b.depth < cLine
    omega
  · have hs2 : (copyHeap s.heap vs).objs.size = s.heap.objs.size + 2 := by
      unfold copyHeap
      rw [size_push', hsz]
    refine wpAny_pure ⟨_, rfl, ?_⟩
    obtain ⟨c, hat⟩ := sortedHeap_at (out := out.toArray) (copyHeap_at s.heap vs)
    refine h out _ c h1 h2 (fun b o q => ?_) (Nat.le_succ _) hat
    have hlt := Heap.lt_size q
    rw [sortedHeap_old (Nat.ne_of_lt (Nat.lt_succ_of_lt hlt)) (by rw [hs2]; exact Nat.lt_succ_of_lt (Nat.lt_succ_of_lt hlt))]
    exact copyHeap_old q
end
end DI
namespace DI
open PySem L2
/-! ### rules by values -/
section
variable {X : Cx}
def rSortQ (K : PySem.W.Frag) : List V → Hp → VK → Prop := fun vs H Q => ∃ (a : Addr) (xs : List V) (ds : List PyData) (O : List Addr), vs = [V.ref a] ∧ (SqL K H a xs ∨ SqT K H a xs) ∧ DqA K H O ds xs ∧
  PySem.W.AllAlike ds ∧ PySem.W.Sortable ds ∧ ds.length ≤ sizeLine ∧ (∀ b ∈ ds, b.depth ≤ 40) ∧ ∀ (ys : List V) (p : Addr), DqA K H O (ds.mergeSort (PySem.W.dataLe false id)) ys → H p = none → Q (.ref p) (L2.upd H p (.lst ys))
theorem each_of_dq {K : PySem.W.Frag} {H : Hp} {O : List Addr} : ∀ {ds : List PyData} {xs : List V} {us : List Value}, DqA K H O ds xs → Vals xs us → PySem.W.EachIs (fun u d => ∃ x, RelV x u ∧ Dq K H O d x) us ds
  | _, _, _, .nil, .nil => .nil
  | _, _, _, .cons h r, .cons q t => .cons ⟨_, q, h⟩ (each_of_dq r t)
theorem dq_of_each {K : PySem.W.Frag} {H : Hp} {O : List Addr} : ∀ {us : List Value} {ds : List PyData}, PySem.W.EachIs (fun u d => ∃ x, RelV x u ∧ Dq K H O d x) us ds → ∃ ys, Vals ys us ∧ DqA K H O ds ys
  | _, _, .nil => ⟨[], .nil, .nil⟩
  | _, _, .cons h r => by
    obtain ⟨x, h1, h2⟩ := h
    obtain ⟨ys, h3, h4⟩ := dq_of_each r
    exact ⟨x :: ys, .cons h1 h3, .cons h2 h4⟩
theorem each_reads {h : Heap} : ∀ {us : List Value} {ds : List PyData} {as : List Addr}, ReadsAll h us ds as → PySem.W.EachIs (fun v b => ∃ as, Reads h v b as) us ds
  | _, _, _, .nil => .nil
  | _, _, _, .cons h r => .cons ⟨_, h⟩ (each_reads r)
theorem cr_sortQ (hu : X.A.units + 65 < cLine) : CallR X (.builtin "sorted") (rSortQ X.K) := by
  intro pins s σ H vs us Q I r h
  obtain ⟨a, xs, ds, O, rfl, hq, hd, hal, hk, hl, hdp, q⟩ := h
  obtain ⟨u, rfl, rx⟩ := vals1 r
  cases rx
  have body : ∀ (its : List Value) (T : String) (o : Obj) (n : Nat), Vals xs its → (T = "list" ∨ T = "tuple") → s.heap.get? a = some o → o.cls = .type T → o.data = .seq its.toArray n →
      wpAny (model X.prog X.w) X.A (call (.builtin "sorted") [.ref a]) (EP X pins σ Q) X.xe s := by
    intro its T o n rv hT ho hc hdat
    obtain ⟨as, hr⟩ := Dp.readsAll I ds xs its hd.dp rv
    refine sorted_any hT ho hc hdat (each_of_dq hd rv) (each_reads hr) hal hk hl (fun b m => ?_) fun out h' c hlen he kp hle hat => ?_
    · have := hdp b m
      omega
    · obtain ⟨ys, h1, h2⟩ := dq_of_each he
      have hz : ys.length ≤ sizeLine := by
        rw [h1.length, hlen]; exact hl
      exact ⟨.ref _, _, I.laid (t' := s.toks) kp hle (show ObjOk X.prog X.w _ h' _ (.lst ys) from ⟨hz, out, c, h1, hat⟩), rfl, q ys _ h2 (I.hok.fresh hle)⟩
  rcases hq with hq | hq
  · obtain ⟨its, r', pl, _⟩ := I.list hq
    obtain ⟨o, ho, hc, n, hdat⟩ := pl.isList
    exact body its "list" o n r' (.inl rfl) ho hc hdat
  · obtain ⟨its, r', pl, _⟩ := I.tuple hq
    obtain ⟨o, ho, hc, n, hdat⟩ := id pl
    exact body its "tuple" o n r' (.inr rfl) ho hc hdat
/-- repr by data -/
def rRepr (K : PySem.W.Frag) : List V → Hp → VK → Prop := fun vs H Q => ∃ x d, vs = [x] ∧ Dp K H x d ∧ showX d = true ∧ d.hasDict = false ∧ d.depth ≤ 60 ∧ d.shown.length ≤ sizeLine ∧ Q (.str d.shown) H
theorem cr_repr (hu : X.A.units + 65 < cLine) (hg : X.A.guards = some []) (hnl : PySem.W.nsIn X.K cStatics digitsName = some none) : CallR X (.builtin "repr") (rRepr X.K) := by
  intro pins s σ H vs us Q I r h
  obtain ⟨x, d, rfl, hd, hs, hn, hdp, hz, q⟩ := h
  obtain ⟨u, rfl, rx⟩ := vals1 r
  have dig : s.heap.NoDigits := by
    obtain ⟨mc, ns, _⟩ := I.mod.nolimit
    exact Heap.NoDigits.keeps ⟨mc, ns, ns_none I.mod.kin ns hnl⟩ I.bk
  have fin : ∀ (h' : Heap) (t : Tok) (tk : Nat), (∀ b o, s.heap.get? b = some o → h'.get? b = some o) → EP X pins σ Q (.str d.shown t) { s with heap := h', toks := tk } := fun h' t tk kp => ⟨.str d.shown, H, I.kept kp, ⟨_, rfl⟩, q⟩
  have fin0 : ∀ (t : Tok) (tk : Nat), EP X pins σ Q (.str d.shown t) { s with toks := tk } := fun t tk => ⟨.str d.shown, H, I.tok tk, ⟨_, rfl⟩, q⟩
  have big : ∀ b : Addr, u = .ref b → wpAny (model X.prog X.w) X.A (call (.builtin "repr") [u]) (EP X pins σ Q) X.xe s := by
    rintro b rfl
    obtain ⟨as, hr⟩ := Dp.reads I d x _ hd rx
    exact repr_ref dig hr hs hg (by omega) (fun _ _ e => e) (fun h' t tk kp => fin h' t tk kp) hz
  cases hd with
  | non => cases rx; exact PySem.P.repr_of_none (fin0 _ _)
  | bl b => cases rx; exact PySem.P.repr_of_bool (fin0 _ _)
  | int i =>
    obtain ⟨t, rfl⟩ := rx
    exact repr_int dig (by simpa [showX] using hs) (by omega) (fin0 _ _)
  | str z =>
    obtain ⟨t, rfl⟩ := rx
    exact PySem.P.repr_of_str (fin0 _ _) hz
  | lst _ _ => cases rx; exact big _ rfl
  | tup _ _ => cases rx; exact big _ rfl
end
def biV : Bi → Value
  | .len => .builtin "len" | .abs => .builtin "abs" | .max2 => .builtin "max" | .min2 => .builtin "min" | .sum => .builtin "sum" | .all => .builtin "all" | .any => .builtin "any"
  | .list => .type "list" | .tuple => .type "tuple" | .sorted => .builtin "sorted" | .int => .type "int" | .str => .type "str" | .repr => .builtin "repr" | .maxL => .builtin "max" | .minL => .builtin "min"
def biN : Bi → Str
  | .len => "len" | .abs => "abs" | .max2 => "max" | .min2 => "min" | .sum => "sum" | .all => "all" | .any => "any"
  | .list => "list" | .tuple => "tuple" | .sorted => "sorted" | .int => "int" | .str => "str" | .repr => "repr" | .maxL => "max" | .minL => "min"
def rBi (K : PySem.W.Frag) : Bi → List V → Hp → VK → Prop
  | .len => fun xs H Q => ∃ x n, xs = [x] ∧ LenV K x H n ∧ Q (.int n) H
  | .abs => fun xs H Q => ∃ i, xs = [.int i] ∧ Q (.int (if i < 0 then -i else i)) H
  | .max2 => fun xs H Q => ∃ i j, xs = [.int i, .int j] ∧ Q (.int (if j > i then j else i)) H
  | .min2 => fun xs H Q => ∃ i j, xs = [.int i, .int j] ∧ Q (.int (if j < i then j else i)) H
  | .sum => rSum K
  | .all => rAll K
  | .any => rAny K
  | .list => fun xs H Q => ∃ p ys, xs = [.ref p] ∧ (SqL K H p ys ∨ SqT K H p ys) ∧ ∀ l, H l = none → Q (.ref l) (L2.upd H l (.lst ys))
  | .tuple => rTupX K
  | .sorted => rSortQ K
  | .int => fun xs H Q => (∃ i, xs = [.int i] ∧ Q (.int i) H) ∨ ∃ k, xs = [.bl k] ∧ Q (.int (if k then 1 else 0)) H
  | .str => fun xs H Q => ∃ i, xs = [.int i] ∧ i.natAbs.log2 < 1920 ∧ Q (.str (toString i)) H
  | .repr => rRepr K
  | .maxL => rMax K
  | .minL => rMin K
theorem bi_call {X : Cx} (hc : X.calm = true) (hu : X.A.units + 65 < cLine) (hg : X.A.guards = some []) (hnl : PySem.W.nsIn X.K cStatics digitsName = some none) (b : Bi) : CallR X (biV b) (rBi X.K b) := by
  cases b with
  | len => exact call_len
  | abs => exact call_abs
  | max2 => exact call_max2 hc
  | min2 => exact call_min2 hc
  | sum => exact cr_sum hc
  | all => exact cr_all hc
  | any => exact cr_any hc
  | list => exact call_list_of
  | tuple => exact cr_tupX
  | sorted => exact cr_sortQ hu
  | int => exact call_int1
  | str => exact call_str_int
  | repr => exact cr_repr hu hg hnl
  | maxL => exact cr_max hc
  | minL => exact cr_min hc
theorem bi_boot (b : Bi) : bootBuiltins (biN b) = some (biV b) := by cases b <;> decide +kernel
/-- looked at, one by one -/
inductive BqA (K : PySem.W.Frag) (H : Hp) (O : List Addr) : List PyData → List V → Prop
  | nil : BqA K H O [] []
  | cons {d : PyData} {v : V} {ds : List PyData} {vs : List V} : Bq K H O d v → BqA K H O ds vs → BqA K H O (d :: ds) (v :: vs)
section
variable {K : PySem.W.Frag} {H : Hp} {O : List Addr} {x y : PyData} {v u : V} {r : R}
theorem BqA.one {vs : List V} (h : BqA K H O [x] vs) : ∃ v, vs = [v] ∧ Bq K H O x v := by
  cases h with
  | cons h t => cases t; exact ⟨_, rfl, h⟩
theorem BqA.two {vs : List V} (h : BqA K H O [x, y] vs) : ∃ v u, vs = [v, u] ∧ Bq K H O x v ∧ Bq K H O y u := by
  cases h with
  | cons h t =>
    obtain ⟨u, rfl, hu⟩ := t.one
    exact ⟨_, u, rfl, h, hu⟩
theorem intsD_ok : ∀ {xs : List PyData} {ns : List Int} {vs : List V}, intsD xs = some ns → DqA K H O xs vs → xs = ns.map PyData.int ∧ vs = ns.map V.int
  | [], _, _, e, .nil => by cases e; exact ⟨rfl, rfl⟩
  | x :: r, ns, _, e, .cons h t => by
    cases x with
    | int i =>
      obtain ⟨ms, hm, rfl⟩ := Option.map_eq_some_iff.mp (show (intsD r).map (i :: ·) = some ns from e)
      obtain ⟨h1, h2⟩ := intsD_ok hm t
      cases h
      exact ⟨by rw [List.map_cons, h1], by rw [List.map_cons, h2]⟩
    | _ => cases e
theorem boolsD_ok : ∀ {xs : List PyData} {ns : List Bool} {vs : List V}, boolsD xs = some ns → DqA K H O xs vs → vs = ns.map V.bl
  | [], _, _, e, .nil => by cases e; rfl
  | x :: r, ns, _, e, .cons h t => by
    cases x with
    | bool i =>
      obtain ⟨ms, hm, rfl⟩ := Option.map_eq_some_iff.mp (show (boolsD r).map (i :: ·) = some ns from e)
      have h2 := boolsD_ok hm t
      cases h
      rw [List.map_cons, h2]
    | _ => cases e
theorem items_ok {xs : List PyData} (bx : Bq K H O x v) (h : items x = some xs) : ∃ a vs, v = .ref a ∧ (SqL K H a vs ∨ SqT K H a vs) ∧ DqA K H O xs vs ∧ ((∃ ys, x = .tuple ys) → SqT K H a vs ∧ Dq K H O x v) ∧ ((∃ ys, x = .list ys) → H a = some (.lst vs)) := by
  cases x with
  | list ys =>
    cases h
    obtain ⟨a, vs, rfl, ha, da⟩ := bx.list
    exact ⟨a, vs, rfl, .inl (SqL.of ha), da, (fun ⟨_, e⟩ => nomatch e), fun _ => ha⟩
  | tuple ys =>
    cases h
    obtain ⟨a, vs, rfl, ha, da⟩ := bx.tup
    exact ⟨a, vs, rfl, .inr ha.sq, da, (fun _ => ⟨ha.sq, .tup ha da⟩), fun ⟨_, e⟩ => nomatch e⟩
  | _ => cases h
theorem fold_max : ∀ (r : List Int) (a : Int), (r.foldl (fun m x => if m < x then x else m) a ∈ a :: r) ∧ ∀ y ∈ a :: r, y ≤ r.foldl (fun m x => if m < x then x else m) a
  | [], a => ⟨List.mem_cons_self, fun y m => by rcases List.mem_cons.mp m with e | m; exact Int.le_of_eq e; cases m⟩
  | b :: r, a => by
    rw [List.foldl_cons]
    obtain ⟨h1, h2⟩ := fold_max r (if a < b then b else a)
    refine ⟨?_, fun y m => ?_⟩
    · rcases List.mem_cons.mp h1 with e | m
      · rw [e]
        split
        · exact List.mem_cons_of_mem _ List.mem_cons_self
        · exact List.mem_cons_self
      · exact List.mem_cons_of_mem _ (List.mem_cons_of_mem _ m)
    · have h0 := h2 _ List.mem_cons_self
      rcases List.mem_cons.mp m with e | m
      · rw [e]
        refine Int.le_trans ?_ h0
        split <;> omega
      · rcases List.mem_cons.mp m with e | m
        · rw [e]
          refine Int.le_trans ?_ h0
          split <;> omega
        · exact h2 y (List.mem_cons_of_mem _ m)
theorem fold_min : ∀ (r : List Int) (a : Int), (r.foldl (fun m x => if x < m then x else m) a ∈ a :: r) ∧ ∀ y ∈ a :: r, r.foldl (fun m x => if x < m then x else m) a ≤ y
  | [], a => ⟨List.mem_cons_self, fun y m => by rcases List.mem_cons.mp m with e | m; exact Int.le_of_eq e.symm; cases m⟩
  | b :: r, a => by
    rw [List.foldl_cons]
    obtain ⟨h1, h2⟩ := fold_min r (if b < a then b else a)
    refine ⟨?_, fun y m => ?_⟩
    · rcases List.mem_cons.mp h1 with e | m
      · rw [e]
        split
        · exact List.mem_cons_of_mem _ List.mem_cons_self
        · exact List.mem_cons_self
      · exact List.mem_cons_of_mem _ (List.mem_cons_of_mem _ m)
    · have h0 := h2 _ List.mem_cons_self
      rcases List.mem_cons.mp m with e | m
      · rw [e]
        refine Int.le_trans h0 ?_
        split <;> omega
      · rcases List.mem_cons.mp m with e | m
        · rw [e]
          refine Int.le_trans h0 ?_
          split <;> omega
        · exact h2 y (List.mem_cons_of_mem _ m)
theorem bi_ok {xs : List PyData} {vs : List V} (ow : Ow H O) (bx : BqA K H O xs vs) : ∀ (b : Bi), biF b xs = some r → Mk1 K H O r fun Q => rBi K b vs H Q := by
  intro b h
  unfold biF at h
  split at h
  · split at h
    · rename_i z hl
      cases h
      obtain ⟨v, rfl, hv⟩ := bx.one
      rw [hv.str]
      exact mk_int ow fun Q q => ⟨_, _, rfl, ⟨lim_line hl, rfl⟩, q⟩
    · cases h
  · cases h
    obtain ⟨v, rfl, hv⟩ := bx.one
    obtain ⟨a, ws, rfl, ha, da⟩ := hv.list
    exact mk_int ow fun Q q => ⟨_, _, rfl, .inl ⟨ws, SqL.of ha, da.length⟩, q⟩
  · cases h
    obtain ⟨v, rfl, hv⟩ := bx.one
    obtain ⟨a, ws, rfl, ha, da⟩ := hv.tup
    exact mk_int ow fun Q q => ⟨_, _, rfl, .inr ⟨ws, ha.sq, da.length⟩, q⟩
  · cases h
    obtain ⟨v, rfl, hv⟩ := bx.one
    rw [hv.int]
    exact mk_int ow fun Q q => ⟨_, rfl, q⟩
  · cases h
    obtain ⟨v, u, rfl, hv, hu⟩ := bx.two
    rw [hv.int, hu.int]
    exact mk_int ow fun Q q => ⟨_, _, rfl, q⟩
  · cases h
    obtain ⟨v, u, rfl, hv, hu⟩ := bx.two
    rw [hv.int, hu.int]
    exact mk_int ow fun Q q => ⟨_, _, rfl, q⟩
  · obtain ⟨ns, hn, rfl⟩ := Option.map_eq_some_iff.mp h
    obtain ⟨v, rfl, hv⟩ := bx.one
    obtain ⟨a, ws, rfl, ha, da⟩ := hv.list
    obtain ⟨_, rfl⟩ := intsD_ok hn da
    exact mk_int ow fun Q q => ⟨a, ns, rfl, SqL.of ha, q⟩
  · obtain ⟨ns, hn, rfl⟩ := Option.map_eq_some_iff.mp h
    obtain ⟨v, rfl, hv⟩ := bx.one
    obtain ⟨a, ws, rfl, ha, da⟩ := hv.list
    cases boolsD_ok hn da
    exact mk_bl ow fun Q q => ⟨a, ns, rfl, SqL.of ha, q⟩
  · obtain ⟨ns, hn, rfl⟩ := Option.map_eq_some_iff.mp h
    obtain ⟨v, rfl, hv⟩ := bx.one
    obtain ⟨a, ws, rfl, ha, da⟩ := hv.list
    cases boolsD_ok hn da
    exact mk_bl ow fun Q q => ⟨a, ns, rfl, SqL.of ha, q⟩
  · obtain ⟨ys, hn, rfl⟩ := Option.map_eq_some_iff.mp h
    obtain ⟨v, rfl, hv⟩ := bx.one
    obtain ⟨a, ws, rfl, ha, da, _, _⟩ := items_ok hv hn
    exact mk_lst ow da fun Q q => ⟨a, ws, rfl, ha, q⟩
  · obtain ⟨ys, hn, rfl⟩ := Option.map_eq_some_iff.mp h
    obtain ⟨v, rfl, hv⟩ := bx.one
    obtain ⟨a, ws, rfl, ha, da, ht, hl⟩ := items_ok hv hn
    rename_i x0
    cases x0 with
    | list zs =>
      exact mk_tup ow da fun Q q => ⟨_, rfl, .inl ⟨a, ws, rfl, SqL.of (hl ⟨zs, rfl⟩), q⟩⟩
    | tuple zs =>
      cases hn
      exact mk_val ow (ht ⟨_, rfl⟩).2 fun Q q => ⟨_, rfl, .inr ⟨a, ws, rfl, (ht ⟨_, rfl⟩).1, q⟩⟩
    | _ => cases hn
  · obtain ⟨zs, hn, rfl⟩ := Option.map_eq_some_iff.mp h
    obtain ⟨ys, hy, hs⟩ := Option.bind_eq_some_iff.mp hn
    obtain ⟨v, rfl, hv⟩ := bx.one
    obtain ⟨a, ws, rfl, ha, da, _, _⟩ := items_ok hv hy
    unfold sortD at hs
    split at hs
    · rename_i hc
      cases hs
      intro Q q
      exact ⟨a, ws, ys, O, rfl, ha, da, hc.1, hc.2.1, lim_line hc.2.2.1, hc.2.2.2, fun us p dp hp => mk_lst ow dp (fun Q q => q) Q q p hp⟩
    · cases hs
  · cases h
    obtain ⟨v, rfl, hv⟩ := bx.one
    rw [hv.int]
    exact mk_int ow fun Q q => .inl ⟨_, rfl, q⟩
  · cases h
    obtain ⟨v, rfl, hv⟩ := bx.one
    rw [hv.bl]
    exact mk_int ow fun Q q => .inr ⟨_, rfl, q⟩
  · obtain ⟨m, hm, rfl⟩ := Option.map_eq_some_iff.mp h
    obtain ⟨ns, hn, hx⟩ := Option.bind_eq_some_iff.mp hm
    obtain ⟨v, rfl, hv⟩ := bx.one
    obtain ⟨a, ws, rfl, ha, da⟩ := hv.list
    obtain ⟨_, rfl⟩ := intsD_ok hn da
    cases ns with
    | nil => cases hx
    | cons n0 ns =>
      cases hx
      obtain ⟨f1, f2⟩ := fold_max ns n0
      exact mk_int ow fun Q q => ⟨a, _, rfl, SqL.of ha, by simp, fun m h1 h2 => by
        have e : m = ns.foldl (fun m x => if m < x then x else m) n0 := Int.le_antisymm (f2 m h1) (h2 _ f1)
        rw [e]; exact q⟩
  · obtain ⟨m, hm, rfl⟩ := Option.map_eq_some_iff.mp h
    obtain ⟨ns, hn, hx⟩ := Option.bind_eq_some_iff.mp hm
    obtain ⟨v, rfl, hv⟩ := bx.one
    obtain ⟨a, ws, rfl, ha, da⟩ := hv.list
    obtain ⟨_, rfl⟩ := intsD_ok hn da
    cases ns with
    | nil => cases hx
    | cons n0 ns =>
      cases hx
      obtain ⟨f1, f2⟩ := fold_min ns n0
      exact mk_int ow fun Q q => ⟨a, _, rfl, SqL.of ha, by simp, fun m h1 h2 => by
        have e : m = ns.foldl (fun m x => if x < m then x else m) n0 := Int.le_antisymm (h2 _ f1) (f2 m h1)
        rw [e]; exact q⟩
  · split at h
    · rename_i hc
      cases h
      obtain ⟨v, rfl, hv⟩ := bx.one
      exact mk_str ow fun Q q => ⟨v, _, rfl, hv.dp, hc.1, hc.2.1, hc.2.2.1, lim_line hc.2.2.2, q⟩
    · cases h
  · split at h
    · rename_i hc
      cases h
      obtain ⟨v, rfl, hv⟩ := bx.one
      rw [hv.int]
      exact mk_str ow fun Q q => ⟨_, rfl, hc, q⟩
    · cases h
  · cases h
end
end DI

/-! DI7: expressions hold what the interpreter tells. -/
namespace DI
open PySem L2
section
variable {K : PySem.W.Frag} {H H1 H2 : Hp} {O O1 O2 : List Addr} {ρ ρ1 ρ2 : Rho} {σ : L2.St} {r : R} {v : V} {x : PyData}
theorem Nx.nown (rp : Rp K H O ρ σ) (n : Nx K H O ρ σ H1 O1 ρ1) : ∀ a, Own ρ1 σ a → H a ≠ none := fun a h => rp.own_dom (n.own a h)
/-- a new result is given up: data -/
theorem Nx.give (rp : Rp K H O ρ σ) (n : Nx K H O ρ σ H1 O1 ρ1) (h : RsT K H H1 O1 r v) (e : toD r = some x) : ∃ O', Nx K H O ρ σ H1 O' ρ1 ∧ Dq K H1 O' x v := by
  obtain ⟨O', s, r', d⟩ := give_new n.rp (n.nown rp) h e
  exact ⟨O', ⟨n.st.trans s (fun a q => .inr q.2.1) rp.dom, r', n.ls⟩, d⟩
/-- an operation behind a step -/
theorem Nx.made {T : VK → Prop} {Q : VK} (rp : Rp K H O ρ σ) (n : Nx K H O ρ σ H1 O1 ρ1) (m : Mk1 K H1 O1 r T) (q : ∀ v H' O', Nx K H O ρ σ H' O' ρ1 → RsT K H H' O' r v → Q v H') : T Q :=
  m Q fun v H' O' s ow h => q v H' O' (n.trans rp (Nx.plain n.rp s ow)) (h.from fun a z => n.base z)
end
variable (X : Cx) (Φ : Phi)
def OkE (c : CE) (e : Expr) : Prop := ∀ (ρ : Rho) (r : R) (ρ' : Rho), ev Φ c ρ = some (r, ρ') → ∀ (σ : L2.St) (H : Hp) (O : List Addr), Rp X.K H O ρ σ → ∀ Q : VK,
  (∀ v H' O', Nx X.K H O ρ σ H' O' ρ' → RsT X.K H H' O' r v → Q v H') → twp X e σ H Q
def OkB (c : CE) (e : Expr) : Prop := ∀ (ρ : Rho) (a : Arg) (ρ' : Rho), brw c ρ (ev Φ c ρ) = some (a, ρ') → ∀ (σ : L2.St) (H : Hp) (O : List Addr), Rp X.K H O ρ σ → ∀ Q : VK,
  (∀ v H' O', Nx X.K H O ρ σ H' O' ρ' → RsA X.K H H' O' σ a v → Q v H') → twp X e σ H Q
def OkT (c : CE) (e : Expr) : Prop := ∀ (ρ : Rho) (b : Bool) (ρ' : Rho), evT Φ c ρ = some (b, ρ') → ∀ (σ : L2.St) (H : Hp) (O : List Addr), Rp X.K H O ρ σ → ∀ Q : Bool → Hp → Prop,
  (∀ H' O', Nx X.K H O ρ σ H' O' ρ' → Q b H') → twt X e σ H Q
def OkS (cs : CEs) (es : List Expr) : Prop := ∀ (ρ : Rho) (ds : List PyData) (ρ' : Rho), evs Φ cs ρ = some (ds, ρ') → ∀ (σ : L2.St) (H : Hp) (O : List Addr), Rp X.K H O ρ σ → ∀ Q : List V → Hp → Prop,
  (∀ vs H' O', Nx X.K H O ρ σ H' O' ρ' → DqA X.K H' O' ds vs → Q vs H') → twa X es σ H Q
/-- pending, one by one -/
inductive PdA (K : PySem.W.Frag) (H0 H : Hp) (O : List Addr) (σ : L2.St) : List Arg → List V → Prop
  | nil : PdA K H0 H O σ [] []
  | cons {a : Arg} {v : V} {as : List Arg} {vs : List V} : RsA K H0 H O σ a v → (∀ p ∈ as.zip vs, (∃ xs, p.1 = .v (.l xs)) → (∃ xs, a = .v (.l xs)) → p.2 ≠ v) → PdA K H0 H O σ as vs → PdA K H0 H O σ (a :: as) (v :: vs)
def OkBs (cs : CEs) (es : List Expr) : Prop := ∀ (ρ : Rho) (as : List Arg) (ρ' : Rho), evb Φ cs ρ = some (as, ρ') → ∀ (σ : L2.St) (H : Hp) (O : List Addr), Rp X.K H O ρ σ → ∀ Q : List V → Hp → Prop,
  (∀ vs H' O', Nx X.K H O ρ σ H' O' ρ' → PdA X.K H H' O' σ as vs → Q vs H') → twa X es σ H Q
def OkA (io : List Bool) (cs : CEs) (es : List Expr) : Prop := ∀ (ρ : Rho) (as : List Arg) (ρ' : Rho), eva Φ io cs ρ = some (as, ρ') → ∀ (σ : L2.St) (H : Hp) (O : List Addr), Rp X.K H O ρ σ → ∀ Q : List V → Hp → Prop,
  (∀ vs H' O', Nx X.K H O ρ σ H' O' ρ' → PdA X.K H H' O' σ as vs → Q vs H') → twa X es σ H Q
variable {X} {Φ}
section
variable {K : PySem.W.Frag} {H H0 H1 H2 : Hp} {O O1 O2 : List Addr} {ρ ρ1 ρ2 : Rho} {σ : L2.St}
theorem PdA.nx (rp : Rp K H O ρ σ) (hS : ∀ a, Own ρ σ a → H0 a ≠ none) (n : Nx K H O ρ σ H1 O1 ρ1) : ∀ {as : List Arg} {vs : List V}, PdA K H0 H O σ as vs → PdA K H0 H1 O1 σ as vs
  | _, _, .nil => .nil
  | _, _, .cons h q t => .cons (h.nx rp hS n) q (PdA.nx rp hS n t)
theorem PdA.from {H00 : Hp} (hd : ∀ a, H0 a = none → H00 a = none) : ∀ {as : List Arg} {vs : List V}, PdA K H0 H O σ as vs → PdA K H00 H O σ as vs
  | _, _, .nil => .nil
  | _, _, .cons h q t => .cons (h.from hd) q (PdA.from hd t)
theorem PdA.tmp_none : ∀ {as : List Arg} {vs : List V}, PdA K H0 H O σ as vs → ∀ p ∈ as.zip vs, (∃ xs, p.1 = .v (.l xs)) → ∃ a, p.2 = .ref a ∧ H0 a = none
  | _, _, .nil, p, m, _ => by cases m
  | _, _, .cons h q t, p, m, e => by
    rw [List.zip_cons_cons] at m
    rcases List.mem_cons.mp m with e2 | m
    · subst e2
      obtain ⟨xs, e⟩ := e
      have e' := e
      simp only at e'
      subst e'
      obtain ⟨a, _, h1, _, h2, _⟩ := h
      exact ⟨a, h1, h2⟩
    · exact PdA.tmp_none t p m e
theorem rds_ok (rp : Rp K H O ρ σ) : ∀ {as : List Arg} {vs : List V} {xs : List PyData}, PdA K H0 H O σ as vs → rds ρ as = some xs → BqA K H O xs vs
  | [], _, _, .nil, e => by cases e; exact .nil
  | a :: r, _, xs, .cons h _ t, e => by
    obtain ⟨x, hx, e⟩ := Option.bind_eq_some_iff.mp (show (rd ρ a).bind (fun x => (rds ρ r).map (x :: ·)) = some xs from e)
    obtain ⟨ys, hy, rfl⟩ := Option.map_eq_some_iff.mp e
    exact .cons (rd_ok rp h hx) (rds_ok rp t hy)
end
section
variable {c a b : CE} {e ea eb : Expr} {cs : CEs} {es : List Expr} {pos : Pos}
theorem OkE.data (h : OkE X Φ c e) {ρ : Rho} {r : R} {ρ' : Rho} {x : PyData} (hv : ev Φ c ρ = some (r, ρ')) (hx : toD r = some x) {σ : L2.St} {H : Hp} {O : List Addr} (rp : Rp X.K H O ρ σ) {Q : VK}
    (q : ∀ v H' O', Nx X.K H O ρ σ H' O' ρ' → Dq X.K H' O' x v → Q v H') : twp X e σ H Q :=
  h ρ r ρ' hv σ H O rp Q fun v H' O' n hr => by
    obtain ⟨O2, n2, d⟩ := n.give rp hr hx
    exact q v H' O2 n2 d
/-- nothing is borrowed but a name's own list -/
theorem OkB.of (h : OkE X Φ c e) (hn : ∀ i, c ≠ .var i) : OkB X Φ c e := by
  intro ρ a ρ' hb σ H O rp Q q
  have hb' : (ev Φ c ρ).map (fun p => (Arg.v p.1, p.2)) = some (a, ρ') := by
    cases c <;> first | exact hb | exact (hn _ rfl).elim
  obtain ⟨⟨r, ρ2⟩, hv, e⟩ := Option.map_eq_some_iff.mp hb'
  cases e
  exact h ρ r _ hv σ H O rp Q fun v H' O' n hr => q v H' O' n hr
theorem okE_var {i : Nat} (hp : PE X e (tVar i)) : OkE X Φ (.var i) e := by
  intro ρ r ρ' hv σ H O rp Q q
  refine of_pe hp ?_
  rw [ev] at hv
  cases hg : gt ρ i with
  | none => rw [hg] at hv; cases hv
  | some p =>
    rw [hg] at hv
    obtain ⟨v, hs, hr⟩ := rp.slot i p hg
    refine ⟨v, hs, ?_⟩
    cases p with
    | d y => cases hv; exact q v H O (Nx.refl rp) hr
    | s xs => cases hv; exact q v H O (Nx.refl rp) hr
    | k ds => cases hv; exact q v H O (Nx.refl rp) hr
    | l xs =>
      cases hv
      obtain ⟨a, vs, rfl, m, ha, d⟩ := hr
      have st : Stp H O (fun b => b = a) H (less O a) := Stp.give
      have e := st.ext (S := fun b => b = a) fun b z => by rw [z]; exact m
      have dn : Dq X.K H (less O a) (.list xs) (.ref a) := .lst ha (fun z => (mem_less.mp z).2 rfl) (DqA.ext rp.dom e d)
      have rp' := rp.put st hg hs (fun b z => z) rp.dom.less (q := .d (.list xs)) dn
      refine q _ H (less O a) ⟨st.wide fun b z => ⟨i, xs, hg, by rw [z]; exact hs⟩, rp', fun j ys h1 => ?_⟩ dn
      rw [gt_set] at h1
      split at h1
      · cases h1
      · exact ⟨ys, h1⟩
theorem okB_var {i : Nat} (hp : PE X e (tVar i)) : OkB X Φ (.var i) e := by
  intro ρ a ρ' hb σ H O rp Q q
  have hE := okE_var (Φ := Φ) hp
  have hb' : (match gt ρ i with
    | some (.l _) => some (Arg.s i, ρ)
    | _ => (ev Φ (.var i) ρ).map fun p => (Arg.v p.1, p.2)) = some (a, ρ') := hb
  cases hg : gt ρ i with
  | none =>
    rw [hg] at hb'
    obtain ⟨⟨r, ρ2⟩, hv, e⟩ := Option.map_eq_some_iff.mp hb'
    cases e
    exact hE ρ r _ hv σ H O rp Q fun v H' O' n hr => q v H' O' n hr
  | some p =>
    rw [hg] at hb'
    cases p with
    | l xs =>
      cases hb'
      refine of_pe hp ?_
      obtain ⟨v, hs, hr⟩ := rp.slot i _ hg
      exact ⟨v, hs, q v H O (Nx.refl rp) hs⟩
    | d y =>
      obtain ⟨⟨r, ρ2⟩, hv, e⟩ := Option.map_eq_some_iff.mp hb'
      cases e
      exact hE ρ r _ hv σ H O rp Q fun v H' O' n hr => q v H' O' n hr
    | s xs =>
      obtain ⟨⟨r, ρ2⟩, hv, e⟩ := Option.map_eq_some_iff.mp hb'
      cases e
      exact hE ρ r _ hv σ H O rp Q fun v H' O' n hr => q v H' O' n hr
    | k ds =>
      obtain ⟨⟨r, ρ2⟩, hv, e⟩ := Option.map_eq_some_iff.mp hb'
      cases e
      exact hE ρ r _ hv σ H O rp Q fun v H' O' n hr => q v H' O' n hr
theorem okE_val {d : PyData} {v : V} (hp : PE X e (tC v)) (hd : ∀ H O, Dq X.K H O d v) (c : CE) (hc : ∀ ρ, ev Φ c ρ = some (.d d, ρ)) : OkE X Φ c e := by
  intro ρ r ρ' hv σ H O rp Q q
  rw [hc] at hv
  cases hv
  exact of_pe hp (q v H O (Nx.refl rp) (hd H O))
/-- two operands looked at -/
theorem two_ok (ha : OkB X Φ a ea) (hb : OkB X Φ b eb) {ρ ρ1 ρ2 : Rho} {p q : Arg} {x y : PyData} (h1 : brw a ρ (ev Φ a ρ) = some (p, ρ1)) (h2 : brw b ρ1 (ev Φ b ρ1) = some (q, ρ2)) (h3 : rd ρ2 p = some x) (h4 : rd ρ2 q = some y)
    {σ : L2.St} {H : Hp} {O : List Addr} (rp : Rp X.K H O ρ σ) {R2' : V → V → Hp → Prop}
    (k : ∀ v u H2 O2, Nx X.K H O ρ σ H2 O2 ρ2 → Bq X.K H2 O2 x v → Bq X.K H2 O2 y u → R2' v u H2) : twp X ea σ H fun v H1 => twp X eb σ H1 fun u H2 => R2' v u H2 := by
  refine ha ρ p ρ1 h1 σ H O rp _ fun v H1 O1 n1 r1 => ?_
  refine hb ρ1 q ρ2 h2 σ H1 O1 n1.rp _ fun u H2 O2 n2 r2 => ?_
  have n := n1.trans rp n2
  exact k v u H2 O2 n (rd_ok n.rp (r1.nx n1.rp (n1.nown rp) n2) h3) (rd_ok n.rp r2 h4)
theorem okE_bin {o : BOp} (ha : OkB X Φ a ea) (hb : OkB X Φ b eb) : OkE X Φ (.bin o a b) (.BinOp ea (bopE o) eb pos) := by
  intro ρ r ρ' hv σ H O rp Q q
  rw [ev] at hv
  obtain ⟨⟨p, ρ1⟩, h1, hv⟩ := Option.bind_eq_some_iff.mp hv
  obtain ⟨⟨p2, ρ2⟩, h2, hv⟩ := Option.bind_eq_some_iff.mp hv
  obtain ⟨x, h3, hv⟩ := Option.bind_eq_some_iff.mp hv
  obtain ⟨y, h4, hv⟩ := Option.bind_eq_some_iff.mp hv
  obtain ⟨r', h5, e⟩ := Option.map_eq_some_iff.mp hv
  cases e
  refine of_pe (pe_op (op_bin o) pe_wp pe_wp) ?_
  exact two_ok ha hb h1 h2 h3 h4 rp fun v u H2 O2 n bx hy => n.made rp (bin_ok n.rp.dom bx hy o h5) q
theorem okE_neg (ha : OkE X Φ a ea) : OkE X Φ (.neg a) (.UnaryOp .USub ea pos) := by
  intro ρ r ρ' hv σ H O rp Q q
  rw [ev] at hv
  obtain ⟨⟨p, ρ1⟩, h1, hv⟩ := Option.bind_eq_some_iff.mp hv
  simp only at hv
  split at hv
  · rename_i i
    cases hv
    refine of_pe (pe_un un_neg pe_wp) ?_
    refine ha ρ _ _ h1 σ H O rp _ fun v H1 O1 n1 r1 => ?_
    have r1' : Dq X.K H1 O1 (.int i) v := r1
    cases r1'
    exact ⟨i, rfl, q _ H1 O1 n1 (.int (-i))⟩
  · cases hv
theorem copE_marks (hu : X.A.units + 65 < cLine) {o : COp} (hm : behindInMarks (copE o) eb = false) (ha : OkB X Φ a ea) (hb : OkB X Φ b eb) : OkE X Φ (.cmp o a b) (.Compare ea [copE o] [eb] pos) := by
  intro ρ r ρ' hv σ H O rp Q q
  rw [ev] at hv
  obtain ⟨⟨p, ρ1⟩, h1, hv⟩ := Option.bind_eq_some_iff.mp hv
  obtain ⟨⟨p2, ρ2⟩, h2, hv⟩ := Option.bind_eq_some_iff.mp hv
  obtain ⟨x, h3, hv⟩ := Option.bind_eq_some_iff.mp hv
  obtain ⟨y, h4, hv⟩ := Option.bind_eq_some_iff.mp hv
  obtain ⟨k, h5, e⟩ := Option.map_eq_some_iff.mp hv
  cases e
  refine of_pe (pe_cmpR (op_cmp hu o) pe_wp pe_wp hm) ?_
  exact two_ok ha hb h1 h2 h3 h4 rp fun v u H2 O2 n bx hy => cmp_ok n.rp.dom bx hy o h5 Q (q _ _ _ n (.bl k))
theorem okE_chain (hu : X.A.units + 65 < cLine) {c : CE} {ec : Expr} {o o2 : COp} (hm : lastMarks [copE o, copE o2] [eb, ec] = false) (ha : OkB X Φ a ea) (hb : OkB X Φ b eb) (hc : OkB X Φ c ec) : OkE X Φ (.chain o o2 a b c) (.Compare ea [copE o, copE o2] [eb, ec] pos) := by
  intro ρ r ρ' hv σ H O rp Q q
  rw [ev] at hv
  obtain ⟨⟨p, ρ1⟩, h1, hv⟩ := Option.bind_eq_some_iff.mp hv
  obtain ⟨⟨p2, ρ2⟩, h2, hv⟩ := Option.bind_eq_some_iff.mp hv
  obtain ⟨x, h3, hv⟩ := Option.bind_eq_some_iff.mp hv
  obtain ⟨y, h4, hv⟩ := Option.bind_eq_some_iff.mp hv
  obtain ⟨k, h5, hv⟩ := Option.bind_eq_some_iff.mp hv
  refine of_pe (pe_chain (op_cmp hu o) (op_cmp hu o2) pe_wp pe_wp pe_wp hm) ?_
  refine ha ρ p ρ1 h1 σ H O rp _ fun v H1 O1 n1 r1 => ?_
  refine hb ρ1 p2 ρ2 h2 σ H1 O1 n1.rp _ fun u H2 O2 n2 r2 => ?_
  have n := n1.trans rp n2
  refine cmp_ok n.rp.dom (rd_ok n.rp (r1.nx n1.rp (n1.nown rp) n2) h3) (rd_ok n.rp r2 h4) o h5 _ ⟨k, rfl, ?_⟩
  cases k with
  | false =>
    rw [if_neg Bool.false_ne_true] at hv ⊢
    cases hv
    exact q _ _ _ n (.bl false)
  | true =>
    rw [if_pos rfl] at hv ⊢
    obtain ⟨⟨p3, ρ3⟩, h6, hv⟩ := Option.bind_eq_some_iff.mp hv
    obtain ⟨y', h7, hv⟩ := Option.bind_eq_some_iff.mp hv
    obtain ⟨z, h8, hv⟩ := Option.bind_eq_some_iff.mp hv
    obtain ⟨k2, h9, e⟩ := Option.map_eq_some_iff.mp hv
    cases e
    refine hc ρ2 p3 ρ3 h6 σ H2 O2 n.rp _ fun w H3 O3 n3 r3 => ?_
    have n' := n.trans rp n3
    exact cmp_ok n'.rp.dom (rd_ok n'.rp (r2.nx n.rp (n2.nown n1.rp) n3) h7) (rd_ok n'.rp r3 h8) o2 h9 Q (q _ _ _ n' (.bl k2))
theorem okE_tup {k0 : Nat} (hs : OkS X Φ cs es) : OkE X Φ (.tup cs) (.Tuple es k0 pos) := by
  intro ρ r ρ' hv σ H O rp Q q
  rw [ev] at hv
  obtain ⟨⟨ds, ρ1⟩, h1, hv⟩ := Option.bind_eq_some_iff.mp hv
  simp only at hv
  split at hv
  · rename_i hl
    cases hv
    refine of_pe (pe_tupX pa_wp) ?_
    refine hs ρ _ _ h1 σ H O rp _ fun vs H1 O1 n d => ⟨by rw [← d.length]; exact lim_line hl, ?_⟩
    exact n.made rp (mk_tup n.rp.dom d fun Q q => q) q
  · cases hv
theorem okE_lst (hs : OkS X Φ cs es) : OkE X Φ (.lst cs) (.List es pos) := by
  intro ρ r ρ' hv σ H O rp Q q
  rw [ev] at hv
  obtain ⟨⟨ds, ρ1⟩, h1, hv⟩ := Option.bind_eq_some_iff.mp hv
  simp only at hv
  split at hv
  · rename_i hl
    cases hv
    refine of_pe (pe_lst pa_wp) ?_
    refine hs ρ _ _ h1 σ H O rp _ fun vs H1 O1 n d => ⟨by rw [← d.length]; exact lim_line hl, ?_⟩
    exact n.made rp (mk_lst n.rp.dom d fun Q q => q) q
  · cases hv
theorem okE_ite {c : CE} {ec : Expr} (hc : OkT X Φ c ec) (ha : OkE X Φ a ea) (hb : OkE X Φ b eb) : OkE X Φ (.ite c a b) (.IfExp ec ea eb pos) := by
  intro ρ r ρ' hv σ H O rp Q q
  rw [ev] at hv
  obtain ⟨⟨k, ρ1⟩, h1, hv⟩ := Option.bind_eq_some_iff.mp hv
  refine of_pe (pe_ifExp pt_wp pe_wp pe_wp) ?_
  refine hc ρ k ρ1 h1 σ H O rp _ fun H1 O1 n1 => ?_
  simp only at hv
  cases k with
  | true =>
    rw [if_pos rfl] at hv ⊢
    exact ha ρ1 r ρ' hv σ H1 O1 n1.rp Q fun v H' O' n hr => q v H' O' (n1.trans rp n) (hr.from fun a z => n1.base z)
  | false =>
    rw [if_neg Bool.false_ne_true] at hv ⊢
    exact hb ρ1 r ρ' hv σ H1 O1 n1.rp Q fun v H' O' n hr => q v H' O' (n1.trans rp n) (hr.from fun a z => n1.base z)
/-- x and y, x or y, as values -/
theorem okE_and {rest : List Expr} {pos' : Pos} (ha : OkE X Φ a ea) (hb : OkE X Φ b (.BoolOp .And (eb :: rest) pos)) : OkE X Φ (.and a b) (.BoolOp .And (ea :: eb :: rest) pos) := by
  intro ρ r ρ' hv σ H O rp Q q
  rw [ev] at hv
  obtain ⟨⟨p, ρ1⟩, h1, hv⟩ := Option.bind_eq_some_iff.mp hv
  obtain ⟨x, h2, hv⟩ := Option.bind_eq_some_iff.mp hv
  obtain ⟨k, h3, hv⟩ := Option.bind_eq_some_iff.mp hv
  refine of_pe (pe_andT pe_wp pe_wp) ?_
  refine ha.data h1 h2 rp fun v H1 O1 n1 d => ⟨k, tru_of (.inl d) h3, ?_⟩
  simp only at hv
  cases k with
  | true =>
    rw [if_pos rfl] at hv ⊢
    exact hb ρ1 r ρ' hv σ H1 O1 n1.rp Q fun v H' O' n hr => q v H' O' (n1.trans rp n) (hr.from fun a z => n1.base z)
  | false =>
    rw [if_neg Bool.false_ne_true] at hv ⊢
    cases hv
    exact q v H1 O1 n1 d
theorem okE_or {rest : List Expr} {pos' : Pos} (ha : OkE X Φ a ea) (hb : OkE X Φ b (.BoolOp .Or (eb :: rest) pos)) : OkE X Φ (.or a b) (.BoolOp .Or (ea :: eb :: rest) pos) := by
  intro ρ r ρ' hv σ H O rp Q q
  rw [ev] at hv
  obtain ⟨⟨p, ρ1⟩, h1, hv⟩ := Option.bind_eq_some_iff.mp hv
  obtain ⟨x, h2, hv⟩ := Option.bind_eq_some_iff.mp hv
  obtain ⟨k, h3, hv⟩ := Option.bind_eq_some_iff.mp hv
  refine of_pe (pe_orT pe_wp pe_wp) ?_
  refine ha.data h1 h2 rp fun v H1 O1 n1 d => ⟨k, tru_of (.inl d) h3, ?_⟩
  simp only at hv
  cases k with
  | true =>
    rw [if_pos rfl] at hv ⊢
    cases hv
    exact q v H1 O1 n1 d
  | false =>
    rw [if_neg Bool.false_ne_true] at hv ⊢
    exact hb ρ1 r ρ' hv σ H1 O1 n1.rp Q fun v H' O' n hr => q v H' O' (n1.trans rp n) (hr.from fun a z => n1.base z)
theorem okE_one {op : BoolOp} (h : OkE X Φ c e) : OkE X Φ c (.BoolOp op [e] pos) := by
  intro ρ r ρ' hv σ H O rp Q q
  exact of_pe (pe_one pe_wp) (h ρ r ρ' hv σ H O rp Q q)
end
end DI

/-! DI8: tests, arguments, built-ins, methods, subscripts. -/
namespace DI
open PySem L2
def notStar : Expr → Bool
  | .Starred _ _ => false
  | _ => true
theorem star_cons {e : Expr} {es : List Expr} {env : Env} (h : notStar e = true) : starEach (e :: es) env = (false, eval e env) :: starEach es env := by
  cases e <;> first | rfl | cases h
theorem star_plain {env : Env} {pos : Pos} : ∀ {es : List Expr}, es.all notStar = true → (backTo pos (starEach es env)).any (·.1) = false
  | [], _ => rfl
  | e :: es, h => by
    rw [List.all_cons, Bool.and_eq_true] at h
    rw [star_cons h.1]
    have ih := star_plain (env := env) (pos := pos) h.2
    unfold backTo at ih ⊢
    rw [List.map_cons, List.any_cons, ih]
    rfl
theorem star_all {env : Env} {pos : Pos} : ∀ {es : List Expr}, es.all notStar = true → ((backTo pos (starEach es env)).all fun x => !x.1) = true
  | [], _ => rfl
  | e :: es, h => by
    rw [List.all_cons, Bool.and_eq_true] at h
    rw [star_cons h.1]
    have ih := star_all (env := env) (pos := pos) h.2
    unfold backTo at ih ⊢
    rw [List.map_cons, List.all_cons, ih]
    rfl
section
variable {X : Cx} {Φ : Phi} {c a b : CE} {e ea eb : Expr} {cs : CEs} {es : List Expr} {pos p apos : Pos}
/-! ### argument lists -/
theorem okS_nil : OkS X Φ .nil [] := by
  intro ρ ds ρ' hv σ H O rp Q q
  rw [evs] at hv
  cases hv
  exact of_pa pa_nil (q [] H O (Nx.refl rp) .nil)
theorem okS_cons (hn : notStar e = true) (h : OkE X Φ c e) (ht : OkS X Φ cs es) : OkS X Φ (.cons c cs) (e :: es) := by
  intro ρ ds ρ' hv σ H O rp Q q
  rw [evs] at hv
  obtain ⟨⟨r, ρ1⟩, h1, hv⟩ := Option.bind_eq_some_iff.mp hv
  obtain ⟨x, h2, hv⟩ := Option.bind_eq_some_iff.mp hv
  obtain ⟨⟨xs, ρ2⟩, h3, e2⟩ := Option.map_eq_some_iff.mp hv
  cases e2
  refine of_pa (pa_cons pe_wp pa_wp (star_cons hn)) ?_
  refine h.data h1 h2 rp fun v H1 O1 n1 d1 => ?_
  refine ht ρ1 xs _ h3 σ H1 O1 n1.rp _ fun vs H2 O2 n2 d2 => ?_
  exact q _ H2 O2 (n1.trans rp n2) (.cons (Dq.ext n1.rp.dom (n2.ext n1.rp) d1) d2)
theorem okBs_nil : OkBs X Φ .nil [] := by
  intro ρ ds ρ' hv σ H O rp Q q
  rw [evb] at hv
  cases hv
  exact of_pa pa_nil (q [] H O (Nx.refl rp) .nil)
/-- what is pending and what comes behind -/
theorem pd_cons {K : PySem.W.Frag} {H H1 H2 : Hp} {O O1 O2 : List Addr} {ρ ρ1 ρ2 : Rho} {σ : L2.St} {y : Arg} {v : V} {as : List Arg} {vs : List V} (rp : Rp K H O ρ σ) (n1 : Nx K H O ρ σ H1 O1 ρ1) (r1 : RsA K H H1 O1 σ y v) (n2 : Nx K H1 O1 ρ1 σ H2 O2 ρ2)
    (r2 : PdA K H1 H2 O2 σ as vs) : PdA K H H2 O2 σ (y :: as) (v :: vs) := by
  refine .cons (r1.nx n1.rp (n1.nown rp) n2) (fun p m e1 ⟨xs, e2⟩ e3 => ?_) (r2.from fun a z => n1.base z)
  subst e2
  obtain ⟨a, ha, hn⟩ := r2.tmp_none p m e1
  obtain ⟨b, ws, rfl, _, _, hb, _⟩ := r1
  rw [ha] at e3
  cases e3
  rw [hb] at hn
  cases hn
theorem okBs_cons (hn : notStar e = true) (h : OkB X Φ c e) (ht : OkBs X Φ cs es) : OkBs X Φ (.cons c cs) (e :: es) := by
  intro ρ ds ρ' hv σ H O rp Q q
  rw [evb] at hv
  obtain ⟨⟨y, ρ1⟩, h1, hv⟩ := Option.bind_eq_some_iff.mp hv
  obtain ⟨⟨as, ρ2⟩, h3, e2⟩ := Option.map_eq_some_iff.mp hv
  cases e2
  refine of_pa (pa_cons pe_wp pa_wp (star_cons hn)) ?_
  refine h ρ y ρ1 h1 σ H O rp _ fun v H1 O1 n1 r1 => ?_
  refine ht ρ1 as _ h3 σ H1 O1 n1.rp _ fun vs H2 O2 n2 r2 => ?_
  exact q _ H2 O2 (n1.trans rp n2) (pd_cons rp n1 r1 n2 r2)
theorem okA_nil {io : List Bool} : OkA X Φ io .nil [] := by
  intro ρ ds ρ' hv σ H O rp Q q
  have hv' : some (([] : List Arg), ρ) = some (ds, ρ') := by
    cases io <;> (rw [eva] at hv; exact hv)
  cases hv'
  exact of_pa pa_nil (q [] H O (Nx.refl rp) .nil)
/-- what is handed over for good -/
theorem okF (h : OkE X Φ c e) {ρ : Rho} {r : R} {ρ' : Rho} (hv : ev Φ c ρ = some (r, ρ')) {σ : L2.St} {H : Hp} {O : List Addr} (rp : Rp X.K H O ρ σ) {Q : VK}
    (q : ∀ v H' O', Nx X.K H O ρ σ H' O' ρ' → RsA X.K H H' O' σ (.v (frz r)) v → Q v H') : twp X e σ H Q := by
  cases r with
  | d x => exact h ρ _ _ hv σ H O rp Q fun v H' O' n hr => q v H' O' n hr
  | s xs => exact h ρ _ _ hv σ H O rp Q fun v H' O' n hr => q v H' O' n hr
  | k ds => exact h ρ _ _ hv σ H O rp Q fun v H' O' n hr => q v H' O' n hr
  | l xs => exact h.data hv rfl rp fun v H' O' n hr => q v H' O' n hr
theorem okA_cons {k : Bool} {io : List Bool} (hn : notStar e = true) (h : OkE X Φ c e) (hB : OkB X Φ c e) (ht : OkA X Φ io cs es) : OkA X Φ (k :: io) (.cons c cs) (e :: es) := by
  intro ρ ds ρ' hv σ H O rp Q q
  rw [eva] at hv
  obtain ⟨⟨y, ρ1⟩, h1, hv⟩ := Option.bind_eq_some_iff.mp hv
  obtain ⟨⟨as, ρ2⟩, h3, e2⟩ := Option.map_eq_some_iff.mp hv
  cases e2
  refine of_pa (pa_cons pe_wp pa_wp (star_cons hn)) ?_
  have key : ∀ v H1 O1, Nx X.K H O ρ σ H1 O1 ρ1 → RsA X.K H H1 O1 σ y v → twa X es σ H1 (fun xs H2 => Q (v :: xs) H2) := fun v H1 O1 n1 r1 => by
    refine ht ρ1 as _ h3 σ H1 O1 n1.rp _ fun vs H2 O2 n2 r2 => ?_
    exact q _ H2 O2 (n1.trans rp n2) (pd_cons rp n1 r1 n2 r2)
  cases k with
  | true =>
    rw [if_pos rfl] at h1
    exact hB ρ y ρ1 h1 σ H O rp _ key
  | false =>
    rw [if_neg Bool.false_ne_true] at h1
    obtain ⟨⟨r, ρ3⟩, h4, e3⟩ := Option.map_eq_some_iff.mp h1
    cases e3
    exact okF h h4 rp key
/-! ### built-ins -/
theorem pe_bi {bb : Bi} (hc : X.calm = true) (hu : X.A.units + 65 < cLine) (hgd : X.A.guards = some []) (hnl : PySem.W.nsIn X.K cStatics digitsName = some none) (hg : Gl X (biN bb)) (hm : X.mg (biN bb) = none) (hn : (e :: es).all notStar = true) :
    PE X (.Call (.Name (biN bb) p) (e :: es) [] pos) (tCB (rBi X.K bb) (twa X (e :: es))) := by
  rw [List.all_cons, Bool.and_eq_true] at hn
  have h0 : biN bb ≠ "__name__" := by cases bb <;> decide
  have h1 : (biN bb == ("__debug__" : Str)) = false := by cases bb <;> decide
  have hb := bi_boot bb
  have hr := bi_call (X := X) hc hu hgd hnl bb
  have kinds : (∃ id, biV bb = .builtin id) ∨ ∃ T, biV bb = .type T := by
    cases bb <;> first | exact .inl ⟨_, rfl⟩ | exact .inr ⟨_, rfl⟩
  rcases kinds with ⟨id, k⟩ | ⟨T, k⟩
  · rw [k] at hb hr
    exact pe_callB hr hg hm hb pa_wp h0 h1 (star_cons hn.1) (star_plain hn.2)
  · rw [k] at hb hr
    exact pe_callTy hr hg hm hb pa_wp h0 h1 (star_cons hn.1) (star_plain hn.2)
theorem okE_bi {bb : Bi} (hc : X.calm = true) (hu : X.A.units + 65 < cLine) (hgd : X.A.guards = some []) (hnl : PySem.W.nsIn X.K cStatics digitsName = some none) (hg : Gl X (biN bb)) (hm : X.mg (biN bb) = none) (hn : (e :: es).all notStar = true) (h : OkBs X Φ cs (e :: es)) :
    OkE X Φ (.bi bb cs) (.Call (.Name (biN bb) p) (e :: es) [] pos) := by
  intro ρ r ρ' hv σ H O rp Q q
  rw [ev] at hv
  obtain ⟨⟨as, ρ1⟩, h1, hv⟩ := Option.bind_eq_some_iff.mp hv
  obtain ⟨xs, h2, hv⟩ := Option.bind_eq_some_iff.mp hv
  obtain ⟨r', h3, e2⟩ := Option.map_eq_some_iff.mp hv
  cases e2
  refine of_pe (pe_bi hc hu hgd hnl hg hm hn) ?_
  refine h ρ as _ h1 σ H O rp _ fun vs H1 O1 n1 r1 => ?_
  exact n1.made rp (bi_ok n1.rp.dom (rds_ok n1.rp r1 h2) bb h3) q
def tyN : Ty → String
  | .tuple => "tuple" | .list => "list" | .str => "str" | .int => "int" | .bool => "bool"
def tyNS : Ty → Str
  | .tuple => "tuple" | .list => "list" | .str => "str" | .int => "int" | .bool => "bool"
theorem ty_of {K : PySem.W.Frag} {H : Hp} {O : List Addr} {x : PyData} {v : V} {t : Ty} (h : Bq K H O x v) (hd : ∀ kv, x ≠ .dict kv) : ∃ n, TyX K H v (.type n) ∧ kitB n (tyN t) = some (isT t x) := by
  cases x with
  | none => rw [h.non]; exact ⟨_, .base .non, by cases t <;> first | (show kitB _ _ = some true; decide +kernel) | (show kitB _ _ = some false; decide +kernel)⟩
  | bool b => rw [h.bl]; exact ⟨_, .base (.bl b), by cases t <;> first | (show kitB _ _ = some true; decide +kernel) | (show kitB _ _ = some false; decide +kernel)⟩
  | int i => rw [h.int]; exact ⟨_, .base (.int i), by cases t <;> first | (show kitB _ _ = some true; decide +kernel) | (show kitB _ _ = some false; decide +kernel)⟩
  | str s => rw [h.str]; exact ⟨_, .base (.str s), by cases t <;> first | (show kitB _ _ = some true; decide +kernel) | (show kitB _ _ = some false; decide +kernel)⟩
  | list xs =>
    obtain ⟨a, vs, rfl, ha, _⟩ := h.list
    exact ⟨_, .base (.lst ha), by cases t <;> first | (show kitB _ _ = some true; decide +kernel) | (show kitB _ _ = some false; decide +kernel)⟩
  | tuple xs =>
    obtain ⟨a, vs, rfl, ha, _⟩ := h.tup
    refine ⟨"tuple", ?_, by cases t <;> first | (show kitB _ _ = some true; decide +kernel) | (show kitB _ _ = some false; decide +kernel)⟩
    obtain ⟨its, n, ha | ⟨hk, _⟩⟩ := ha
    · exact .fTuple ha
    · exact .kTuple hk rfl
  | dict kv => exact (hd kv rfl).elim
theorem ty_boot (t : Ty) : bootBuiltins (tyNS t) = some (.type (tyN t)) := by cases t <;> decide +kernel
theorem okE_isi {t : Ty} {p2 : Pos} (hg : Gl X "isinstance") (hm : X.mg "isinstance" = none) (hg2 : Gl X (tyNS t)) (hm2 : X.mg (tyNS t) = none) (hn : notStar e = true) (h : OkB X Φ c e) :
    OkE X Φ (.isi t c) (.Call (.Name "isinstance" p) [e, .Name (tyNS t) p2] [] pos) := by
  intro ρ r ρ' hv σ H O rp Q q
  rw [ev] at hv
  obtain ⟨⟨y, ρ1⟩, h1, hv⟩ := Option.bind_eq_some_iff.mp hv
  obtain ⟨x, h2, hv⟩ := Option.bind_eq_some_iff.mp hv
  have hd : (∀ kv, x ≠ .dict kv) ∧ some (R.d (.bool (isT t x)), ρ1) = some (r, ρ') := by
    cases x <;> first | exact ⟨fun _ => nofun, hv⟩ | cases hv
  obtain ⟨hd, hv⟩ := hd
  cases hv
  have h0 : tyNS t ≠ "__name__" := by cases t <;> decide
  have h00 : (tyNS t == ("__debug__" : Str)) = false := by cases t <;> decide
  have pt : PE X (.Name (tyNS t) p2) (tC (.ty (tyN t))) := pe_bltn hg2 hm2 (ty_boot t) rfl h0 h00
  refine of_pe (pe_callB call_isi hg hm (by decide +kernel) (pa_cons pe_wp (pa_cons pt pa_nil rfl) (star_cons hn)) (by decide) (by decide) (star_cons hn) (star_plain (es := [.Name (tyNS t) p2]) rfl)) ?_
  refine h ρ y _ h1 σ H O rp _ fun v H1 O1 n1 r1 => ?_
  obtain ⟨n, h3, h4⟩ := ty_of (t := t) (rd_ok n1.rp r1 h2) hd
  exact ⟨v, .ty (tyN t), _, _, _, rfl, .ty _, h3, kit_ty h4, q _ H1 O1 n1 (.bl _)⟩
/-! ### tests -/
theorem okT_val (h : OkB X Φ c e) (hc : ∀ ρ, evT Φ c ρ = (brw c ρ (ev Φ c ρ)).bind fun p => (rd p.2 p.1).bind fun x => (tru x).map fun k => (k, p.2))
    (he : ∀ whole, isTrue e X.env whole = (do let v ← whole; standAt e.pos; holding [v] (truthy v))) : OkT X Φ c e := by
  intro ρ k ρ' hv σ H O rp Q q
  rw [hc] at hv
  obtain ⟨⟨y, ρ1⟩, h1, hv⟩ := Option.bind_eq_some_iff.mp hv
  obtain ⟨x, h2, hv⟩ := Option.bind_eq_some_iff.mp hv
  obtain ⟨k', h3, e2⟩ := Option.map_eq_some_iff.mp hv
  cases e2
  refine of_pt (pt_truth pe_wp he) ?_
  refine h ρ y _ h1 σ H O rp _ fun v H1 O1 n1 r1 => ?_
  exact ⟨k, tru_of (rd_ok n1.rp r1 h2) h3, q H1 O1 n1⟩
theorem ev_cmp_bool {o : COp} {ρ ρ' : Rho} {r : R} (h : ev Φ (.cmp o a b) ρ = some (r, ρ')) : ∃ k, r = .d (.bool k) := by
  rw [ev] at h
  obtain ⟨_, _, h⟩ := Option.bind_eq_some_iff.mp h
  obtain ⟨_, _, h⟩ := Option.bind_eq_some_iff.mp h
  obtain ⟨_, _, h⟩ := Option.bind_eq_some_iff.mp h
  obtain ⟨_, _, h⟩ := Option.bind_eq_some_iff.mp h
  obtain ⟨k2, _, e4⟩ := Option.map_eq_some_iff.mp h
  cases e4
  exact ⟨k2, rfl⟩
theorem ev_chain_bool {o o2 : COp} {ρ ρ' : Rho} {r : R} (h : ev Φ (.chain o o2 a b c) ρ = some (r, ρ')) : ∃ k, r = .d (.bool k) := by
  rw [ev] at h
  obtain ⟨_, _, h⟩ := Option.bind_eq_some_iff.mp h
  obtain ⟨_, _, h⟩ := Option.bind_eq_some_iff.mp h
  obtain ⟨_, _, h⟩ := Option.bind_eq_some_iff.mp h
  obtain ⟨_, _, h⟩ := Option.bind_eq_some_iff.mp h
  obtain ⟨k, _, h⟩ := Option.bind_eq_some_iff.mp h
  split at h
  · obtain ⟨_, _, h⟩ := Option.bind_eq_some_iff.mp h
    obtain ⟨_, _, h⟩ := Option.bind_eq_some_iff.mp h
    obtain ⟨_, _, h⟩ := Option.bind_eq_some_iff.mp h
    obtain ⟨k2, _, e4⟩ := Option.map_eq_some_iff.mp h
    cases e4
    exact ⟨k2, rfl⟩
  · cases h
    exact ⟨false, rfl⟩
theorem evT_ev {c : CE} {ρ ρ' : Rho} {k : Bool} (hc : evT Φ c ρ = (brw c ρ (ev Φ c ρ)).bind fun p => (rd p.2 p.1).bind fun x => (tru x).map fun k => (k, p.2))
    (hb : brw c ρ (ev Φ c ρ) = (ev Φ c ρ).map fun p => (Arg.v p.1, p.2)) (hk : ∀ r ρ', ev Φ c ρ = some (r, ρ') → ∃ k, r = .d (.bool k)) (h : evT Φ c ρ = some (k, ρ')) : ev Φ c ρ = some (.d (.bool k), ρ') := by
  rw [hc, hb] at h
  obtain ⟨⟨y, ρ1⟩, h1, h⟩ := Option.bind_eq_some_iff.mp h
  obtain ⟨⟨r, ρ2⟩, h4, e3⟩ := Option.map_eq_some_iff.mp h1
  cases e3
  obtain ⟨k0, rfl⟩ := hk _ _ h4
  obtain ⟨x, h2, h⟩ := Option.bind_eq_some_iff.mp h
  obtain ⟨k', h3, e2⟩ := Option.map_eq_some_iff.mp h
  cases h2
  cases h3
  cases e2
  exact h4
theorem okT_cmp (hu : X.A.units + 65 < cLine) {o : COp} (hm : behindInMarks (copE o) eb = false) (ha : OkB X Φ a ea) (hb : OkB X Φ b eb) : OkT X Φ (.cmp o a b) (.Compare ea [copE o] [eb] pos) := by
  intro ρ r ρ' hv σ H O rp Q q
  have hv := evT_ev (by rw [evT] <;> nofun) rfl (fun r ρ' h => ev_cmp_bool h) hv
  rw [ev] at hv
  obtain ⟨⟨p, ρ1⟩, h1, hv⟩ := Option.bind_eq_some_iff.mp hv
  obtain ⟨⟨p2, ρ2⟩, h2, hv⟩ := Option.bind_eq_some_iff.mp hv
  obtain ⟨x, h3, hv⟩ := Option.bind_eq_some_iff.mp hv
  obtain ⟨y, h4, hv⟩ := Option.bind_eq_some_iff.mp hv
  obtain ⟨k, h5, e⟩ := Option.map_eq_some_iff.mp hv
  cases e
  refine of_pt (pt_cmpR (op_cmp hu o) pe_wp pe_wp hm) ?_
  exact two_ok ha hb h1 h2 h3 h4 rp fun v u H2 O2 n bx hy => cmp_ok n.rp.dom bx hy o h5 _ ⟨_, rfl, q _ _ n⟩
theorem okT_chain (hu : X.A.units + 65 < cLine) {c : CE} {ec : Expr} {o o2 : COp} (hm : lastMarks [copE o, copE o2] [eb, ec] = false) (ha : OkB X Φ a ea) (hb : OkB X Φ b eb) (hc : OkB X Φ c ec) : OkT X Φ (.chain o o2 a b c) (.Compare ea [copE o, copE o2] [eb, ec] pos) := by
  intro ρ r ρ' hv σ H O rp Q q
  have hv := evT_ev (by rw [evT] <;> nofun) rfl (fun r ρ' h => ev_chain_bool h) hv
  rw [ev] at hv
  obtain ⟨⟨p, ρ1⟩, h1, hv⟩ := Option.bind_eq_some_iff.mp hv
  obtain ⟨⟨p2, ρ2⟩, h2, hv⟩ := Option.bind_eq_some_iff.mp hv
  obtain ⟨x, h3, hv⟩ := Option.bind_eq_some_iff.mp hv
  obtain ⟨y, h4, hv⟩ := Option.bind_eq_some_iff.mp hv
  obtain ⟨k, h5, hv⟩ := Option.bind_eq_some_iff.mp hv
  refine of_pt (pt_chain (op_cmp hu o) (op_cmp hu o2) pe_wp pe_wp pe_wp hm) ?_
  refine ha ρ p ρ1 h1 σ H O rp _ fun v H1 O1 n1 r1 => ?_
  refine hb ρ1 p2 ρ2 h2 σ H1 O1 n1.rp _ fun u H2 O2 n2 r2 => ?_
  have n := n1.trans rp n2
  refine cmp_ok n.rp.dom (rd_ok n.rp (r1.nx n1.rp (n1.nown rp) n2) h3) (rd_ok n.rp r2 h4) o h5 _ ⟨k, rfl, ?_⟩
  cases k with
  | false =>
    rw [if_neg Bool.false_ne_true] at hv ⊢
    cases hv
    exact ⟨_, rfl, q _ _ n⟩
  | true =>
    rw [if_pos rfl] at hv ⊢
    obtain ⟨⟨p3, ρ3⟩, h6, hv⟩ := Option.bind_eq_some_iff.mp hv
    obtain ⟨y', h7, hv⟩ := Option.bind_eq_some_iff.mp hv
    obtain ⟨z, h8, hv⟩ := Option.bind_eq_some_iff.mp hv
    obtain ⟨k2, h9, e⟩ := Option.map_eq_some_iff.mp hv
    cases e
    refine hc ρ2 p3 ρ3 h6 σ H2 O2 n.rp _ fun w H3 O3 n3 r3 => ?_
    have n' := n.trans rp n3
    exact cmp_ok n'.rp.dom (rd_ok n'.rp (r2.nx n.rp (n2.nown n1.rp) n3) h7) (rd_ok n'.rp r3 h8) o2 h9 _ ⟨_, rfl, q _ _ n'⟩
theorem okT_not (h : OkT X Φ c e) : OkT X Φ (.not c) (.UnaryOp .Not e pos) := by
  intro ρ k ρ' hv σ H O rp Q q
  rw [evT] at hv
  obtain ⟨⟨k', ρ1⟩, h1, e2⟩ := Option.map_eq_some_iff.mp hv
  cases e2
  exact of_pt (pt_not pt_wp) (h ρ k' _ h1 σ H O rp _ fun H1 O1 n1 => q H1 O1 n1)
theorem okE_not (h : OkB X Φ c e) : OkE X Φ (.not c) (.UnaryOp .Not e pos) := by
  intro ρ r ρ' hv σ H O rp Q q
  rw [ev] at hv
  obtain ⟨⟨y, ρ1⟩, h1, hv⟩ := Option.bind_eq_some_iff.mp hv
  obtain ⟨x, h2, hv⟩ := Option.bind_eq_some_iff.mp hv
  obtain ⟨k, h3, e2⟩ := Option.map_eq_some_iff.mp hv
  cases e2
  refine of_pe (pe_notT pe_wp) ?_
  refine h ρ y _ h1 σ H O rp _ fun v H1 O1 n1 r1 => ?_
  exact ⟨k, tru_of (rd_ok n1.rp r1 h2) h3, q _ H1 O1 n1 (.bl _)⟩
/-- and, or as tests -/
def OkW (X : Cx) (Φ : Phi) (c : CE) (e : Expr) : Prop := ∀ (ρ : Rho) (b : Bool) (ρ' : Rho), evT Φ c ρ = some (b, ρ') → ∀ (σ : L2.St) (H : Hp) (O : List Addr), Rp X.K H O ρ σ → ∀ Q : Bool → Hp → Prop,
  (∀ H' O', Nx X.K H O ρ σ H' O' ρ' → Q b H') → ∀ (whole : Sem Value) (pins : List (Addr × Obj)) (s : Shared), Inv X pins σ H s → wpAny (model X.prog X.w) X.A (isTrue e X.env whole) (TP X pins σ Q) X.xe s
def twW (X : Cx) (e : Expr) : TT := fun σ H Q => ∀ (whole : Sem Value) (pins : List (Addr × Obj)) (s : Shared), Inv X pins σ H s → wpAny (model X.prog X.w) X.A (isTrue e X.env whole) (TP X pins σ Q) X.xe s
theorem pw_wp : PW X e (twW X e) := ⟨fun wh pins s _ _ _ I h => h wh pins s I⟩
theorem OkW.t (h : OkW X Φ c e) : OkT X Φ c e := fun ρ b ρ' hv σ H O rp Q q pins s I => h ρ b ρ' hv σ H O rp Q q _ pins s I
theorem okW_and1 (h : OkT X Φ c e) : OkW X Φ c (.BoolOp .And [e] pos) := fun ρ b ρ' hv σ H O rp Q q whole pins s I => (pw_and1 (pos := pos) pt_wp).run whole pins s σ H Q I (h ρ b ρ' hv σ H O rp Q q)
theorem okW_or1 (h : OkT X Φ c e) : OkW X Φ c (.BoolOp .Or [e] pos) := fun ρ b ρ' hv σ H O rp Q q whole pins s I => (pw_or1 (pos := pos) pt_wp).run whole pins s σ H Q I (h ρ b ρ' hv σ H O rp Q q)
theorem okW_and (ha : OkT X Φ a ea) (hb : OkW X Φ b (.BoolOp .And (eb :: es) pos)) : OkW X Φ (.and a b) (.BoolOp .And (ea :: eb :: es) pos) := by
  intro ρ k ρ' hv σ H O rp Q q whole pins s I
  rw [evT] at hv
  obtain ⟨⟨k1, ρ1⟩, h1, hv⟩ := Option.bind_eq_some_iff.mp hv
  refine (pw_and (pos := pos) pt_wp pw_wp).run whole pins s σ H Q I (ha ρ k1 ρ1 h1 σ H O rp _ fun H1 O1 n1 => ?_)
  simp only at hv
  cases k1 with
  | true =>
    rw [if_pos rfl] at hv ⊢
    exact hb ρ1 k ρ' hv σ H1 O1 n1.rp Q fun H2 O2 n2 => q H2 O2 (n1.trans rp n2)
  | false =>
    rw [if_neg Bool.false_ne_true] at hv ⊢
    cases hv
    exact q H1 O1 n1
theorem okW_or (ha : OkT X Φ a ea) (hb : OkW X Φ b (.BoolOp .Or (eb :: es) pos)) : OkW X Φ (.or a b) (.BoolOp .Or (ea :: eb :: es) pos) := by
  intro ρ k ρ' hv σ H O rp Q q whole pins s I
  rw [evT] at hv
  obtain ⟨⟨k1, ρ1⟩, h1, hv⟩ := Option.bind_eq_some_iff.mp hv
  refine (pw_or (pos := pos) pt_wp pw_wp).run whole pins s σ H Q I (ha ρ k1 ρ1 h1 σ H O rp _ fun H1 O1 n1 => ?_)
  simp only at hv
  cases k1 with
  | true =>
    rw [if_pos rfl] at hv ⊢
    cases hv
    exact q H1 O1 n1
  | false =>
    rw [if_neg Bool.false_ne_true] at hv ⊢
    exact hb ρ1 k ρ' hv σ H1 O1 n1.rp Q fun H2 O2 n2 => q H2 O2 (n1.trans rp n2)
/-! ### subscripts -/
def notSlice : Expr → Bool
  | .Slice _ _ _ _ => false
  | _ => true
theorem plain_ix (h : notSlice e = true) : PlainIx e := by
  intro o i
  cases e <;> first | rfl | cases h
theorem okE_ix (hn : notSlice eb = true) (ha : OkB X Φ a ea) (hb : OkB X Φ b eb) : OkE X Φ (.ix a b) (.Subscript ea eb pos) := by
  intro ρ r ρ' hv σ H O rp Q q
  rw [ev] at hv
  obtain ⟨⟨p, ρ1⟩, h1, hv⟩ := Option.bind_eq_some_iff.mp hv
  obtain ⟨⟨p2, ρ2⟩, h2, hv⟩ := Option.bind_eq_some_iff.mp hv
  obtain ⟨x, h3, hv⟩ := Option.bind_eq_some_iff.mp hv
  obtain ⟨y, h4, hv⟩ := Option.bind_eq_some_iff.mp hv
  obtain ⟨d, h5, e⟩ := Option.map_eq_some_iff.mp hv
  cases e
  refine of_pe (pe_ix ix_seq pe_wp pe_wp (plain_ix hn)) ?_
  exact two_ok ha hb h1 h2 h3 h4 rp fun v u H2 O2 n bx hy => n.made rp (ix_ok n.rp.dom bx hy h5) q
theorem atI_get3 {K : PySem.W.Frag} {H : Hp} {O : List Addr} {xs : List PyData} {vs : List V} {i : Int} {d : PyData} (da : DqA K H O xs vs) (h : atI xs i = some d) : ∃ v, atI vs i = some v ∧ Dq K H O d v := atI_get2 da h
theorem okE_six {i : Nat} (hn : notSlice eb = true) (hp : PE X ea (tVar i)) (hb : OkE X Φ b eb) : OkE X Φ (.six i b) (.Subscript ea eb pos) := by
  intro ρ r ρ' hv σ H O rp Q q
  rw [ev] at hv
  split at hv
  · rename_i xs hg
    obtain ⟨⟨p, ρ1⟩, h1, hv⟩ := Option.bind_eq_some_iff.mp hv
    simp only at hv
    split at hv
    · rename_i k
      obtain ⟨y, h5, e⟩ := Option.map_eq_some_iff.mp hv
      cases e
      refine of_pe (pe_ix ix_list hp pe_wp (plain_ix hn)) ?_
      obtain ⟨v, hs, a, vs, rfl, hf, d⟩ := rp.slot i _ hg
      refine ⟨_, hs, ?_⟩
      refine hb ρ _ _ h1 σ H O rp _ fun u H1 O1 n1 r1 => ?_
      have r1' : Dq X.K H1 O1 (.int k) u := r1
      cases r1'
      have ex := n1.ext rp
      obtain ⟨w, hw, dw⟩ := atI_get3 (DqA.ext rp.dom ex d) h5
      exact ⟨a, vs, k, w, rfl, rfl, (hf.ext rp.dom ex).sq, hw, q _ H1 O1 n1 dw⟩
    · cases hv
  · cases hv
theorem okE_slen {i : Nat} (hg0 : Gl X "len") (hm : X.mg "len" = none) (hn : notStar e = true) (hp : PE X e (tVar i)) : OkE X Φ (.slen i) (.Call (.Name "len" p) [e] [] pos) := by
  intro ρ r ρ' hv σ H O rp Q q
  rw [ev] at hv
  split at hv
  · rename_i xs hg
    cases hv
    refine of_pe (pe_callB call_len hg0 hm PySem.boot_len (pa_cons hp pa_nil (star_cons hn)) (by decide) (by decide) (star_cons hn) rfl) ?_
    obtain ⟨v, hs, a, vs, rfl, hf, d⟩ := rp.slot i _ hg
    refine ⟨_, hs, _, xs.length, rfl, .inl ⟨vs, hf.sq, d.length⟩, ?_⟩
    exact q _ H O (Nx.refl rp) (.int _)
  · cases hv
/-! ### slices -/
theorem okE_sl00 {p2 : Pos} (ha : OkB X Φ a ea) : OkE X Φ (.sl a none none) (.Subscript ea (.Slice none none none p2) pos) := by
  intro ρ r ρ' hv σ H O rp Q q
  rw [ev] at hv
  obtain ⟨⟨y, ρ1⟩, h1, hv⟩ := Option.bind_eq_some_iff.mp hv
  obtain ⟨x, h2, hv⟩ := Option.bind_eq_some_iff.mp hv
  obtain ⟨r', h3, e⟩ := Option.map_eq_some_iff.mp hv
  cases e
  refine of_pe (pe_slice sl_rule pe_wp po_none po_none) ?_
  refine ha ρ y _ h1 σ H O rp _ fun v H1 O1 n1 r1 => ?_
  exact n1.made rp (sl_ok n1.rp.dom (rd_ok n1.rp r1 h2) h3) q
/-- a slice's part: an int, or None -/
def tPartX (t : TE) : TO := fun σ H Q => t σ H fun x H1 => (∃ i, x = .int i ∧ Q (some i) H1) ∨ (x = .non ∧ Q none H1)
theorem po_someX {te : TE} (h : PE X e te) : PO X (some e) (tPartX te) := by
  refine ⟨fun pins s σ H Q I hq => ?_⟩
  refine thn (h.run pins s σ H _ I hq) fun u s1 ⟨x, H1, I1, r1, q1⟩ => ?_
  rcases q1 with ⟨i, rfl, q1⟩ | ⟨rfl, q1⟩
  · obtain ⟨t, rfl⟩ := r1
    exact ⟨some i, H1, I1, .int i t, q1⟩
  · cases r1
    exact ⟨none, H1, I1, .none, q1⟩
theorem part_ok {H : Hp} {O : List Addr} {K : PySem.W.Frag} {x : R} {o : Option Int} {v : V} {H0 : Hp} (h : partI x = some o) (d : RsT K H0 H O x v) {Q : Option Int → Hp → Prop} (q : Q o H) : (∃ i, v = .int i ∧ Q (some i) H) ∨ (v = .non ∧ Q none H) := by
  unfold partI at h
  split at h
  · cases h
    rename_i i
    have d' : Dq K H O (.int i) v := d
    cases d'
    exact .inl ⟨i, rfl, q⟩
  · cases h
    have d' : Dq K H O .none v := d
    cases d'
    exact .inr ⟨rfl, q⟩
  · cases h
theorem okE_sl10 {lo : CE} {el : Expr} {p2 : Pos} (ha : OkB X Φ a ea) (hl : OkE X Φ lo el) : OkE X Φ (.sl a (some lo) none) (.Subscript ea (.Slice (some el) none none p2) pos) := by
  intro ρ r ρ' hv σ H O rp Q q
  rw [ev] at hv
  obtain ⟨⟨y, ρ1⟩, h1, hv⟩ := Option.bind_eq_some_iff.mp hv
  obtain ⟨⟨l, ρ2⟩, h2, hv⟩ := Option.bind_eq_some_iff.mp hv
  obtain ⟨x, h3, hv⟩ := Option.bind_eq_some_iff.mp hv
  obtain ⟨o, h4, hv⟩ := Option.bind_eq_some_iff.mp hv
  obtain ⟨r', h5, e⟩ := Option.map_eq_some_iff.mp hv
  cases e
  refine of_pe (pe_slice sl_rule pe_wp (po_someX pe_wp) po_none) ?_
  refine ha ρ y _ h1 σ H O rp _ fun v H1 O1 n1 r1 => ?_
  refine hl _ _ _ h2 σ H1 O1 n1.rp _ fun u H2 O2 n2 r2 => ?_
  have n := n1.trans rp n2
  refine part_ok (Q := fun l H3 => tNoPart σ H3 fun u H4 => rSl X.K v l u H4 Q) h4 r2 ?_
  exact n.made rp (sl_ok n.rp.dom (rd_ok n.rp (r1.nx n1.rp (n1.nown rp) n2) h3) h5) q
theorem okE_sl01 {hi : CE} {eh : Expr} {p2 : Pos} (ha : OkB X Φ a ea) (hh : OkE X Φ hi eh) : OkE X Φ (.sl a none (some hi)) (.Subscript ea (.Slice none (some eh) none p2) pos) := by
  intro ρ r ρ' hv σ H O rp Q q
  rw [ev] at hv
  obtain ⟨⟨y, ρ1⟩, h1, hv⟩ := Option.bind_eq_some_iff.mp hv
  obtain ⟨⟨l, ρ2⟩, h2, hv⟩ := Option.bind_eq_some_iff.mp hv
  obtain ⟨x, h3, hv⟩ := Option.bind_eq_some_iff.mp hv
  obtain ⟨o, h4, hv⟩ := Option.bind_eq_some_iff.mp hv
  obtain ⟨r', h5, e⟩ := Option.map_eq_some_iff.mp hv
  cases e
  refine of_pe (pe_slice sl_rule pe_wp po_none (po_someX pe_wp)) ?_
  refine ha ρ y _ h1 σ H O rp _ fun v H1 O1 n1 r1 => ?_
  refine hh _ _ _ h2 σ H1 O1 n1.rp _ fun u H2 O2 n2 r2 => ?_
  have n := n1.trans rp n2
  refine part_ok (Q := fun u H4 => rSl X.K v none u H4 Q) h4 r2 ?_
  exact n.made rp (sl_ok n.rp.dom (rd_ok n.rp (r1.nx n1.rp (n1.nown rp) n2) h3) h5) q
theorem okE_sl11 {lo hi : CE} {el eh : Expr} {p2 : Pos} (ha : OkB X Φ a ea) (hl : OkE X Φ lo el) (hh : OkE X Φ hi eh) : OkE X Φ (.sl a (some lo) (some hi)) (.Subscript ea (.Slice (some el) (some eh) none p2) pos) := by
  intro ρ r ρ' hv σ H O rp Q q
  rw [ev] at hv
  obtain ⟨⟨y, ρ1⟩, h1, hv⟩ := Option.bind_eq_some_iff.mp hv
  obtain ⟨⟨l, ρ2⟩, h2, hv⟩ := Option.bind_eq_some_iff.mp hv
  obtain ⟨⟨u, ρ3⟩, h2', hv⟩ := Option.bind_eq_some_iff.mp hv
  obtain ⟨x, h3, hv⟩ := Option.bind_eq_some_iff.mp hv
  obtain ⟨o, h4, hv⟩ := Option.bind_eq_some_iff.mp hv
  obtain ⟨o2, h4', hv⟩ := Option.bind_eq_some_iff.mp hv
  obtain ⟨r', h5, e⟩ := Option.map_eq_some_iff.mp hv
  cases e
  refine of_pe (pe_slice sl_rule pe_wp (po_someX pe_wp) (po_someX pe_wp)) ?_
  refine ha ρ y _ h1 σ H O rp _ fun v H1 O1 n1 r1 => ?_
  refine hl _ _ _ h2 σ H1 O1 n1.rp _ fun w H2 O2 n2 r2 => ?_
  refine part_ok (Q := fun l H3 => tPartX (twp X eh) σ H3 fun u H4 => rSl X.K v l u H4 Q) h4 r2 ?_
  refine hh _ _ _ h2' σ H2 O2 n2.rp _ fun w3 H3 O3 n3 r3 => ?_
  have n12 := n1.trans rp n2
  have n := n12.trans rp n3
  refine part_ok (Q := fun u H4 => rSl X.K v o u H4 Q) h4' r3 ?_
  exact n.made rp (sl_ok n.rp.dom (rd_ok n.rp ((r1.nx n1.rp (n1.nown rp) n2).nx n12.rp (n12.nown rp) n3) h3) h5) q
theorem okE_rev {k : Nat} {p1 p2 p3 : Pos} (ha : OkB X Φ a ea) : OkE X Φ (.rev a) (.Subscript ea (.Slice none none (some (.UnaryOp .USub (.Constant (.int 1) k p1) p2)) p3) pos) := by
  intro ρ r ρ' hv σ H O rp Q q
  rw [ev] at hv
  obtain ⟨⟨y, ρ1⟩, h1, hv⟩ := Option.bind_eq_some_iff.mp hv
  obtain ⟨x, h2, hv⟩ := Option.bind_eq_some_iff.mp hv
  simp only at hv
  split at hv
  · cases hv
    refine of_pe (pe_revL pe_wp) ?_
    refine ha ρ y _ h1 σ H O rp _ fun v H1 O1 n1 r1 => ?_
    obtain ⟨p, vs, rfl, hp, d⟩ := (rd_ok n1.rp r1 h2).list
    exact ⟨p, vs, rfl, SqL.of hp, n1.made rp (mk_lst n1.rp.dom d.reverse fun Q q => q) q⟩
  · cases hv
/-! ### methods that change their list -/
def muN : Mu → Str
  | .append => "append" | .pop => "pop" | .popAt => "pop" | .extend => "extend" | .insert => "insert" | .clear => "clear"
def muId : Mu → String
  | .append => "list.append" | .pop => "list.pop" | .popAt => "list.pop" | .extend => "list.extend" | .insert => "list.insert" | .clear => "list.clear"
def rInsertX : V → List V → Hp → VK → Prop := fun x vs H Q => ∃ (l : Addr) (xs : List V) (i : Int) (y : V), x = .ref l ∧ vs = [.int i, y] ∧ H l = some (.lst xs) ∧ xs.length < sizeLine ∧ 0 ≤ i ∧ i < 2 ^ 63 ∧ Q .non (L2.upd H l (.lst (xs.take i.toNat ++ [y] ++ xs.drop i.toNat)))
theorem inv_tx {X : Cx} {pins : List (Addr × Obj)} {σ : L2.St} {H : Hp} {s : Shared} {a : Addr} {xs : List V} (I : Inv X pins σ H s) (h : TX X.K H a xs) : ∃ its n, Vals xs its.toList ∧ s.heap.get? a = some (tobj its n) := by
  obtain ⟨its, n, h | ⟨h1, _, h3⟩⟩ := h
  · obtain ⟨e, _, us, r, o, e2, _, m, hd⟩ := I.hok a _ h
    rw [e] at e2
    cases e2
    cases hd
    exact ⟨_, _, r, e⟩
  · exact ⟨its, n, h3, I.kIn a _ h1⟩
def rExtendT (K : PySem.W.Frag) : V → List V → Hp → VK → Prop := fun x vs H Q => ∃ l b xs zs, x = .ref l ∧ vs = [.ref b] ∧ H l = some (.lst xs) ∧ TX K H b zs ∧ xs.length + zs.length ≤ sizeLine ∧ Q .non (L2.upd H l (.lst (xs ++ zs)))
theorem mt_extendT : MtR X "list.extend" (rExtendT X.K) := by
  intro pins s σ H x vs v us Q I rx rv h
  obtain ⟨l, b, xs, zs, rfl, rfl, hH, hB, hz, q⟩ := h
  cases rx
  obtain ⟨u, rfl, ru⟩ := vals1 rv
  cases ru
  obtain ⟨z, its, n, r, hl, e⟩ := I.lstM hH
  obtain ⟨its2, n2, r2, e2⟩ := inv_tx I hB
  have hl2 := r2.length
  have hsz : its.toArray.size + its2.size ≤ sizeLine := by
    rw [List.size_toArray, ← Array.length_toList]
    omega
  have hlong : ¬ (!its.toArray.isEmpty && Builtin.List.listTooLong (its.toArray.size + its2.size)) = true := by rw [notLongL hsz, Bool.and_false]; exact Bool.false_ne_true
  refine call_meets PySem.F.slot_list_extend ⟨_, e, rfl⟩ PySem.F.entry_list_extend (PySem.F.args_list_extend_2 _ _) (AutoSeq1.list_extend_list_tuple_0 l its.toArray n b its2 n2 hlong (by rw [List.size_toArray]; omega) (by omega)) ⟨e, e2, ?_⟩
  refine ⟨.non, _, I.lset (ys := xs ++ zs) (its' := its ++ its2.toList) hH e (by simp) (r.append r2) ?_, rfl, q⟩
  rw [List.length_append]
  omega
def rIns : V → List V → Hp → VK → Prop := fun x vs H Q => ∃ (l : Addr) (xs : List V) (i : Int) (y : V), x = .ref l ∧ vs = [.int i, y] ∧ H l = some (.lst xs) ∧ xs.length < sizeLine ∧ 0 ≤ i ∧ i < 2 ^ 63 ∧
  Q .non (L2.upd H l (.lst (xs.take i.toNat ++ y :: xs.drop i.toNat)))
def rMu (K : PySem.W.Frag) : Mu → V → List V → Hp → VK → Prop
  | .append => rAppend
  | .pop => rPop
  | .popAt => rPopAt
  | .extend => fun x vs H Q => rExtend x vs H Q ∨ rExtendT K x vs H Q
  | .insert => rIns
  | .clear => rClear
theorem mt_mu (m : Mu) : MtR X (muId m) (rMu X.K m) := by
  cases m with
  | append => exact mt_append
  | pop => exact mt_pop
  | popAt => exact mt_popAt
  | extend => exact MtR.or mt_extend mt_extendT
  | insert =>
    intro pins s σ H x vs v us Q I rx rv h
    obtain ⟨l, xs, i, y, e1, e2, h1, h2, h3, h4, q⟩ := h
    exact mt_insert pins s σ H x vs v us Q I rx rv ⟨l, xs, i, y, e1, e2, h1, h2, h3, h4, by rw [List.append_assoc]; exact q⟩
  | clear => exact mt_clear
theorem slot_mu (m : Mu) : Slot "list" (muN m) (muId m) := by
  cases m with
  | append => exact PySem.F.slot_list_append
  | pop => exact PySem.F.slot_list_pop
  | popAt => exact PySem.F.slot_list_pop
  | extend => exact PySem.F.slot_list_extend
  | insert => exact PySem.F.slot_list_insert
  | clear => exact PySem.F.slot_list_clear
theorem type_mu (m : Mu) : typeOf (.builtin (muId m)) = pure (.type "method_descriptor") := by
  cases m with
  | append => exact PySem.F.type_list_append
  | pop => exact PySem.F.type_list_pop
  | popAt => exact PySem.F.type_list_pop
  | extend => exact PySem.F.type_list_extend
  | insert => exact PySem.F.type_list_insert
  | clear => exact PySem.F.type_list_clear
end
section
variable {K : PySem.W.Frag} {H : Hp} {O : List Addr}
theorem DqA.one {x : PyData} {vs : List V} (h : DqA K H O [x] vs) : ∃ v, vs = [v] ∧ Dq K H O x v := by
  cases h with
  | cons h t => cases t; exact ⟨_, rfl, h⟩
theorem mu_ok {m : Mu} {xs ds ys : List PyData} {d : PyData} {a : Addr} {vs us : List V} (h : muF m xs ds = some (d, ys)) (ha : H a = some (.lst vs)) (dx : DqA K H O xs vs) (dd : DqA K H O ds us) (hne : a ∈ O) :
    ∃ w ws, DqA K H O ys ws ∧ Dq K H O d w ∧ ∀ Q : VK, Q w (L2.upd H a (.lst ws)) → rMu K m (.ref a) us H Q := by
  unfold muF at h
  split at h
  · split at h
    · rename_i hl
      cases h
      obtain ⟨v, rfl, dv⟩ := dd.one
      exact ⟨.non, vs ++ [v], dx.append (.cons dv .nil), .non, fun Q q => ⟨a, vs, v, rfl, rfl, ha, by rw [← dx.length]; exact Nat.lt_of_lt_of_le hl (by decide), q⟩⟩
    · cases h
  · obtain ⟨y, hy, e⟩ := Option.map_eq_some_iff.mp h
    cases e
    cases dd
    obtain ⟨v, hv, dv⟩ := dx.get hy
    exact ⟨v, vs.dropLast, dx.dropLast, dv, fun Q q => ⟨a, vs, v, rfl, rfl, ha, by rw [← dx.length]; exact hv, q⟩⟩
  · split at h
    · rename_i i hl
      obtain ⟨k, hk, h⟩ := Option.bind_eq_some_iff.mp h
      obtain ⟨y, hy, e⟩ := Option.map_eq_some_iff.mp h
      cases e
      obtain ⟨u, rfl, du⟩ := dd.one
      cases du
      obtain ⟨v, hv, dv⟩ := dx.get hy
      exact ⟨v, vs.eraseIdx k, dx.eraseIdx k, dv, fun Q q => ⟨a, vs, _, k, v, rfl, rfl, ha, hl.1, hl.2, by rw [← dx.length]; exact hk, hv, q⟩⟩
    · cases h
  · obtain ⟨zs, hz, h⟩ := Option.bind_eq_some_iff.mp h
    split at h
    · rename_i hl
      cases h
      obtain ⟨u, rfl, du⟩ := dd.one
      rename_i y
      cases y with
      | list l0 =>
        cases hz
        cases du with
        | lst h1 h2 h3 => exact ⟨.non, _, dx.append h3, .non, fun Q q => .inl ⟨a, _, vs, _, rfl, rfl, ha, h1, by rw [← dx.length, ← h3.length]; exact lim_line hl, q⟩⟩
      | tuple l0 =>
        cases hz
        cases du with
        | tup h1 h3 => exact ⟨.non, _, dx.append h3, .non, fun Q q => .inr ⟨a, _, vs, _, rfl, rfl, ha, h1, by rw [← dx.length, ← h3.length]; exact lim_line hl, q⟩⟩
      | _ => cases hz
    · cases h
  · cases h
    cases dd
    exact ⟨.non, [], .nil, .non, fun Q q => ⟨a, vs, rfl, rfl, ha, q⟩⟩
  · split at h
    · rename_i i x hl
      cases h
      cases dd with
      | cons di dt =>
        cases di
        obtain ⟨v, rfl, dv⟩ := dt.one
        refine ⟨.non, vs.take i.toNat ++ v :: vs.drop i.toNat, (dx.take _).append (.cons dv (dx.drop _)), .non, fun Q q => ⟨a, vs, i, v, rfl, rfl, ha, by rw [← dx.length]; exact Nat.lt_of_lt_of_le hl.2.2 (by decide), hl.1, ?_, q⟩⟩
        have h1 := hl.2.1
        have h2 := hl.2.2
        unfold limLen at h2
        omega
    · cases h
  · cases h
end
end DI

/-! DI9: methods, calls of defs. -/
namespace DI
open PySem L2
section
variable {X : Cx} {Φ : Phi} {c a b : CE} {e ea eb : Expr} {cs : CEs} {es : List Expr} {pos p apos : Pos}
theorem few_ok {es : List Expr} {env : PySem.Env} (h : es.all notStar = true) (hl : es.length < 25) : ((backTo pos (starEach es env)).all (fun x => !x.1) && (backToKw pos (keywordEach [] env)).all (fun x => x.1.isSome)
      && decide (es.length + ([] : List Keyword).length + (if ([] : List Keyword).isEmpty then 0 else 1) < 30)) = true := by
  rw [star_all h]
  have e : decide (es.length + ([] : List Keyword).length + (if ([] : List Keyword).isEmpty then 0 else 1) < 30) = true := by
    apply decide_eq_true
    show es.length + 0 + 0 < 30
    omega
  rw [e]
  rfl
theorem okE_mu {i : Nat} {m : Mu} {x : Str} {p0 : Pos} (hp : PE X (.Name x p0) (tVar i)) (hl : (apos.endLine == pos.line) = true) (hn : es.all notStar = true) (h25 : es.length < 25) (hz : es = [] → cs = .nil) (h : OkS X Φ cs es) :
    OkE X Φ (.mu m i cs) (.Call (.Attribute (.Name x p0) (muN m) apos) es [] pos) := by
  intro ρ r ρ' hv σ H O rp Q q
  rw [ev] at hv
  split at hv
  · rename_i xs0 hg0
    obtain ⟨⟨ds, ρ1⟩, h1, hv⟩ := Option.bind_eq_some_iff.mp hv
    simp only at hv
    split at hv
    rotate_left
    · cases hv
    rename_i xs hg
    obtain ⟨⟨d, ys⟩, hm, e2⟩ := Option.map_eq_some_iff.mp hv
    cases e2
    obtain ⟨v0, hs0, a0, vs0, rfl, ha0, hA0, _⟩ := rp.slot i _ hg0
    -- what is asked, whichever form
    have body : ∀ (v : V), σ[i]? = some (some v) → ∀ (us : List V) (H1 : Hp) (O1 : List Addr), Nx X.K H O ρ σ H1 O1 ρ1 → DqA X.K H1 O1 ds us → rMu X.K m v us H1 Q := by
      intro v hs us H1 O1 n1 dd
      obtain ⟨v', hs', a, vs, rfl, ha, hA, dx⟩ := n1.rp.slot i _ hg
      rw [hs] at hs'
      cases hs'
      obtain ⟨w, ws, dy, dw, k⟩ := mu_ok hm hA dx dd ha
      refine k Q ?_
      have st : Stp H1 O1 (fun z => z = a) (L2.upd H1 a (.lst ws)) O1 := Stp.wr
      have ex := st.ext (S := fun z => z = a) fun z hz => by rw [hz]; exact ha
      have own : Own ρ1 σ a := ⟨i, xs, hg, hs⟩
      refine q w _ O1 ⟨n1.st.trans st (fun z hz => .inl (by rw [hz]; exact n1.own a own)) rp.dom, ?_, fun j zs g1 => ?_⟩ (Dq.ext n1.rp.dom ex dw)
      · exact n1.rp.put st hg hs (fun z hz => hz) (n1.rp.dom.upd rfl) (q := .l ys) ⟨a, ws, rfl, ha, upd_same, DqA.ext n1.rp.dom ex dy⟩
      · rw [gt_set] at g1
        split at g1
        · rename_i c
          rw [← c.1]
          exact ⟨_, hg0⟩
        · exact n1.ls j zs g1
    cases es with
    | nil =>
      refine of_pe (pe_bm0 PySem.F.plainAttrs_list (slot_mu m) (type_mu m) (mt_mu m) hp rfl hl) ?_
      cases hz rfl
      rw [evs] at h1
      cases h1
      exact ⟨_, hs0, .inl ⟨rfl, vs0, SqL.of hA0⟩, body _ hs0 [] H O (Nx.refl rp) .nil⟩
    | cons e0 er =>
      rw [List.all_cons, Bool.and_eq_true] at hn
      refine of_pe (pe_bm PySem.F.plainAttrs_list (slot_mu m) (type_mu m) (mt_mu m) hp pa_wp rfl (few_ok (by rw [List.all_cons, Bool.and_eq_true]; exact hn) h25) hl (star_cons hn.1) (star_plain hn.2)) ?_
      refine ⟨_, hs0, .inl ⟨rfl, vs0, SqL.of hA0⟩, ?_⟩
      exact h ρ ds _ h1 σ H O rp _ fun us H1 O1 n1 dd => body _ hs0 us H1 O1 n1 dd
  · cases hv
/-! ### methods that only look -/
def tyX (K : PySem.W.Frag) (T : String) (x : V) (H : Hp) : Prop := (T = "list" ∧ ∃ p xs, x = .ref p ∧ SqL K H p xs) ∨ (T = "tuple" ∧ ∃ p xs, x = .ref p ∧ TX K H p xs)
theorem tyX_is {pins : List (Addr × Obj)} {σ : L2.St} {H : Hp} {s : Shared} {T : String} {x : V} {v : Value} (I : Inv X pins σ H s) (r : RelV x v) (ty : tyX X.K T x H) : s.TypeIs v T ∧ ∀ a, v = .ref a → ∃ ob, s.heap.get? a = some ob ∧ ob.dict = none := by
  rcases ty with ⟨rfl, p, xs, rfl, h⟩ | ⟨rfl, p, xs, rfl, h⟩
  · cases r
    obtain ⟨its, _, ⟨o, n, ho, hc, hd, hdt⟩, _⟩ := I.list h
    exact ⟨⟨o, ho, hc⟩, fun a e => by cases e; exact ⟨o, ho, hd⟩⟩
  · cases r
    obtain ⟨its, n, _, ho⟩ := inv_tx I h
    exact ⟨⟨_, ho, rfl⟩, fun a e => by cases e; exact ⟨_, ho, rfl⟩⟩
def tBMX (K : PySem.W.Frag) (T : String) (r : V → List V → Hp → VK → Prop) (to : TE) (t : TA) : TE := fun σ H Q => to σ H fun x H1 => tyX K T x H1 ∧ t σ H1 fun xs H2 => r x xs H2 Q
theorem pe_bmX {T id : String} {name : Str} {o : Expr} {to : TE} {t : TA} {r : V → List V → Hp → VK → Prop} {e0 : Expr} (pa : PlainAttrs T) (slot : Slot T name id) (hty : typeOf (.builtin id) = pure (.type "method_descriptor")) (hm : MtR X id r) (ho : PE X o to) (ha : PA X (e0 :: es) t)
    (hbase : attributeBase o name X.env (eval o X.env) = eval o X.env) (hl : (apos.endLine == pos.line) = true) (hn : (e0 :: es).all notStar = true) (h25 : (e0 :: es).length < 25) : PE X (.Call (.Attribute o name apos) (e0 :: es) [] pos) (tBMX X.K T r to t) := by
  have hn' := hn
  rw [List.all_cons, Bool.and_eq_true] at hn'
  refine ⟨fun pins s σ H Q I h => ?_⟩
  refine wpAny_Call_method_late hbase (few_ok hn h25) hl rfl (thn (ho.run pins s σ H _ I h) fun v s1 hx => ?_)
  obtain ⟨x, H1, I1, r1, ty, q1⟩ := hx
  obtain ⟨h1, h2⟩ := tyX_is I1 r1 ty
  refine ⟨T, id, pa, slot, hty, h1, h2, ?_⟩
  have hA := ha.run pos pins s1 σ H1 _ I1 q1
  rw [star_cons hn'.1] at hA ⊢
  refine Calls.callWith_builtin ?_ (Calls.evalArgs_plain (thn hA fun us s2 hy => ?_))
  · have e := star_plain (env := X.env) (pos := pos) hn'.2
    show (false || (backTo pos (starEach es X.env)).any (·.1)) = false
    rw [e]
    rfl
  · obtain ⟨vs, H2, I2, r2, q2⟩ := hy
    exact hm pins s2 σ H2 x vs v us Q I2 r1 r2 q2
/-- count, index of a list or a tuple, by data -/
def rMt (K : PySem.W.Frag) (m : Mt) : V → List V → Hp → VK → Prop := fun x vs H Q => ∃ (a : Addr) (y : V) (d : PyData) (ds : List PyData) (xs : List V), x = .ref a ∧ vs = [y] ∧ DpAll K H xs ds ∧ Dp K H y d ∧ PyData.canLayAll0 ds = true ∧ SeqAt.shaped d = true ∧
  (SqL K H a xs ∨ TX K H a xs) ∧ match m with
    | .count => Q (.int (ds.countP fun z => PyData.eqv z d : Nat)) H
    | .index => ∃ j, firstIx d ds = some j ∧ Q (.int (j : Nat)) H
def mtN : Mt → Str
  | .index => "index" | .count => "count"
def mtIdL : Mt → String
  | .index => "list.index" | .count => "list.count"
def mtIdT : Mt → String
  | .index => "tuple.index" | .count => "tuple.count"
theorem firstIx_ok {d : PyData} : ∀ {ds : List PyData} {j : Nat}, firstIx d ds = some j → ∃ z, ds[j]? = some z ∧ PyData.eqv z d = true ∧ ∀ m z', m < j → ds[m]? = some z' → PyData.eqv z' d = false
  | [], _, h => by cases h
  | z :: r, j, h => by
    rw [firstIx] at h
    split at h
    · rename_i hz
      cases h
      exact ⟨z, rfl, hz, fun m _ hm => absurd hm (Nat.not_lt_zero _)⟩
    · rename_i hz
      obtain ⟨k, hk, rfl⟩ := Option.map_eq_some_iff.mp h
      obtain ⟨z0, h1, h2, h3⟩ := firstIx_ok hk
      refine ⟨z0, by simpa using h1, h2, fun m z' hm e => ?_⟩
      cases m with
      | zero =>
        simp only [List.getElem?_cons_zero, Option.some.injEq] at e
        subst e
        simpa using hz
      | succ m => exact h3 m z' (by omega) (by simpa using e)
section
variable {pins : List (Addr × Obj)} {σ : L2.St} {H : Hp} {s : Shared}
/-- the items as they read -/
theorem reads_map (I : Inv X pins σ H s) {xs : List V} {ds : List PyData} {its : List Value} {d : PyData} {y : V} {uy : Value} (hu : X.A.units + 65 < cLine) (ha : DpAll X.K H xs ds) (rv : Vals xs its) (hy : Dp X.K H y d) (ry : RelV y uy) (hl : PyData.canLayAll0 ds = true) (sd : SeqAt.shaped d = true) :
    its.map (SeqAt.readOf s.heap) = ds ∧ ∀ u, u ∈ its.toArray → SeqAt.EqAt X.A.in1 s u uy (PyData.eqv (SeqAt.readOf s.heap u) d) := by
  obtain ⟨as, h4⟩ := Dp.readsAll I ds xs its ha rv
  obtain ⟨bs, r1⟩ := Dp.reads I d y uy hy ry
  exact ⟨SeqAt.readsAll_map ds its as hl h4, SeqAt.items_eqAt (vs := its.toArray) h4 r1 hl (SeqAt.canLay_of_shaped sd) (PyProof.Rows.room_in_shaped sd hu)⟩
theorem read_at {its : List Value} {ds : List PyData} {h : Heap} (e : its.map (SeqAt.readOf h) = ds) {m : Nat} (hm : m < its.toArray.size) {z : PyData} (hz : ds[m]? = some z) : SeqAt.readOf h its.toArray[m] = z := by
  have hml : m < its.length := by simpa using hm
  rw [← e, List.getElem?_map, List.getElem?_eq_getElem hml] at hz
  have e1 := Option.some.inj (show some (SeqAt.readOf h its[m]) = some z from hz)
  simpa using e1
end
theorem mt_list (hu : X.A.units + 65 < cLine) (m : Mt) : MtR X (mtIdL m) (fun x vs H Q => (∃ p xs, x = .ref p ∧ SqL X.K H p xs) ∧ rMt X.K m x vs H Q) := by
  intro pins s σ H x vs v us Q I rx rxs h
  obtain ⟨⟨p, xs', rfl, hq⟩, a, y, d, ds, xs, e1, rfl, ha, hy, hl, sd, hs, q⟩ := h
  cases e1
  cases rx
  obtain ⟨uy, rfl, ry⟩ := vals1 rxs
  have hsq : SqL X.K H p xs := by
    rcases hs with hs | hs
    · exact hs
    · exfalso
      obtain ⟨its, n, _, ho⟩ := inv_tx I hs
      obtain ⟨its2, _, ⟨o, n2, ho2, hc, _⟩, _⟩ := I.list hq
      rw [ho] at ho2
      cases ho2
      have hc' : Value.type "tuple" = Value.type "list" := hc
      injection hc' with hc'
      exact absurd hc' (by decide)
  obtain ⟨its, rv, ⟨⟨cls, dd, data, sls⟩, n, ho, hc, hdn, hdt⟩, hlen⟩ := I.list hsq
  simp only at hc hdt
  subst hc hdt
  obtain ⟨hmap, heq⟩ := reads_map I hu ha rv hy ry hl sd
  have hL : its.length = ds.length := by rw [← hmap, List.length_map]
  have hvl := rv.length
  have hsl := sizeLine_eq
  cases m with
  | count =>
    refine call_meets PySem.F.slot_list_count ⟨_, ho, rfl⟩ PySem.F.entry_list_count (PySem.F.args_list_count_2 _ _) (SeqAt.list_countAt p its.toArray n dd sls uy (fun u => PyData.eqv (SeqAt.readOf s.heap u) d)) ⟨ho, heq, ?_⟩
    refine ⟨.int (ds.countP fun z => PyData.eqv z d : Nat), H, I.tok _, ⟨s.toks, ?_⟩, q⟩
    show Value.int ((its.toArray.toList.countP _ : Nat) : Int) s.toks = _
    rw [← hmap, List.countP_map]
    rfl
  | index =>
    obtain ⟨j, hj, q⟩ := q
    obtain ⟨z, hz, hzj, hno⟩ := firstIx_ok hj
    have hjd := (List.getElem?_eq_some_iff.mp hz).1
    have hjl : j < its.toArray.size := by simp; omega
    refine call_meets PySem.F.slot_list_index ⟨_, ho, rfl⟩ PySem.F.entry_list_index (PySem.F.args_list_index_2 _ _)
      (SeqAt.list_indexAt p its.toArray n dd sls uy (fun u => PyData.eqv (SeqAt.readOf s.heap u) d) j hjl (by omega) ?_ fun m hm hmj => ?_) ⟨ho, heq, ⟨.int (j : Nat), H, I.tok _, ⟨_, rfl⟩, q⟩⟩
    · show PyData.eqv (SeqAt.readOf s.heap its.toArray[j]) d = true
      rw [read_at hmap hjl hz]
      exact hzj
    · have hz' : ds[m]? = some ds[m] := List.getElem?_eq_getElem (by omega)
      show PyData.eqv (SeqAt.readOf s.heap its.toArray[m]) d = false
      rw [read_at hmap hm hz']
      exact hno m _ hmj hz'
theorem mt_tup (hu : X.A.units + 65 < cLine) (m : Mt) : MtR X (mtIdT m) (fun x vs H Q => (∃ p xs, x = .ref p ∧ TX X.K H p xs) ∧ rMt X.K m x vs H Q) := by
  intro pins s σ H x vs v us Q I rx rxs h
  obtain ⟨⟨p, xs', rfl, hq⟩, a, y, d, ds, xs, e1, rfl, ha, hy, hl, sd, hs, q⟩ := h
  cases e1
  cases rx
  obtain ⟨uy, rfl, ry⟩ := vals1 rxs
  have hsq : TX X.K H p xs := by
    rcases hs with hs | hs
    · exfalso
      obtain ⟨its, n, _, ho⟩ := inv_tx I hq
      obtain ⟨its2, _, ⟨o, n2, ho2, hc, _⟩, _⟩ := I.list hs
      rw [ho] at ho2
      cases ho2
      have hc' : Value.type "tuple" = Value.type "list" := hc
      injection hc' with hc'
      exact absurd hc' (by decide)
    · exact hs
  obtain ⟨its, n, rv, ho⟩ := inv_tx I hsq
  obtain ⟨hmap, heq⟩ := reads_map I hu ha rv hy ry hl sd
  have hL : its.toList.length = ds.length := by rw [← hmap, List.length_map]
  have ea : its.toList.toArray = its := by simp
  rw [ea] at heq
  cases m with
  | count =>
    refine call_meets PySem.F.slot_tuple_count ⟨_, ho, rfl⟩ PySem.F.entry_tuple_count (PySem.F.args_tuple_count_2 _ _) (SeqAt.tuple_countAt p its n none #[] uy (fun u => PyData.eqv (SeqAt.readOf s.heap u) d)) ⟨ho, heq, ?_⟩
    refine ⟨.int (ds.countP fun z => PyData.eqv z d : Nat), H, I.tok _, ⟨s.toks, ?_⟩, q⟩
    rw [← hmap, List.countP_map]
    rfl
  | index =>
    obtain ⟨j, hj, q⟩ := q
    obtain ⟨z, hz, hzj, hno⟩ := firstIx_ok hj
    have hjd := (List.getElem?_eq_some_iff.mp hz).1
    have hjl : j < its.size := by rw [← Array.length_toList]; omega
    have at2 : ∀ (m : Nat) (hm : m < its.size) (z : PyData), ds[m]? = some z → SeqAt.readOf s.heap its[m] = z := fun m hm z hz => by
      have := read_at (its := its.toList) hmap (m := m) (by simpa using hm) hz
      simpa using this
    refine call_meets PySem.F.slot_tuple_index ⟨_, ho, rfl⟩ PySem.F.entry_tuple_index (PySem.F.args_tuple_index_2 _ _)
      (TI.tuple_indexAt p its n none #[] uy (fun u => PyData.eqv (SeqAt.readOf s.heap u) d) j hjl ?_ fun m hm hmj => ?_) ⟨ho, heq, ⟨.int (j : Nat), H, I.tok _, ⟨_, rfl⟩, q⟩⟩
    · show PyData.eqv (SeqAt.readOf s.heap its[j]) d = true
      rw [at2 j hjl z hz]
      exact hzj
    · have hmd : m < ds.length := by omega
      show PyData.eqv (SeqAt.readOf s.heap its[m]) d = false
      rw [at2 m hm _ (List.getElem?_eq_getElem hmd)]
      exact hno m _ hmj (List.getElem?_eq_getElem hmd)
theorem mtF_ok {K : PySem.W.Frag} {H : Hp} {O : List Addr} {x y : PyData} {v u : V} {r : R} {m : Mt} (ow : Ow H O) (bx : Bq K H O x v) (hy : Bq K H O y u) (h : mtF m x [y] = some r) (hl : ∃ zs, x = .list zs) :
    Mk1 K H O r fun Q => (∃ p xs, v = .ref p ∧ SqL K H p xs) ∧ rMt K m v [u] H Q := by
  obtain ⟨zs, rfl⟩ := hl
  obtain ⟨a, vs, rfl, ha, da⟩ := bx.list
  unfold mtF at h
  cases m with
  | index =>
    simp only at h
    split at h
    · rename_i hs
      obtain ⟨k, hk, rfl⟩ := Option.map_eq_some_iff.mp h
      exact mk_int ow fun Q q => ⟨⟨a, vs, rfl, SqL.of ha⟩, a, u, y, zs, vs, rfl, rfl, da.dp, hy.dp, by simpa [PyData.canLay0] using SeqAt.canLay_of_shaped hs.2, hs.1, .inl (SqL.of ha), _, hk, q⟩
    · cases h
  | count =>
    simp only at h
    split at h
    · rename_i hs
      cases h
      exact mk_int ow fun Q q => ⟨⟨a, vs, rfl, SqL.of ha⟩, a, u, y, zs, vs, rfl, rfl, da.dp, hy.dp, by simpa [PyData.canLay0] using SeqAt.canLay_of_shaped hs.2, hs.1, .inl (SqL.of ha), q⟩
    · cases h
theorem mtF_okT {K : PySem.W.Frag} {H : Hp} {O : List Addr} {x y : PyData} {v u : V} {r : R} {m : Mt} (ow : Ow H O) (bx : Bq K H O x v) (hy : Bq K H O y u) (h : mtF m x [y] = some r) (hl : ∃ zs, x = .tuple zs) :
    Mk1 K H O r fun Q => (∃ p xs, v = .ref p ∧ TX K H p xs) ∧ rMt K m v [u] H Q := by
  obtain ⟨zs, rfl⟩ := hl
  obtain ⟨a, vs, rfl, ha, da⟩ := bx.tup
  unfold mtF at h
  cases m with
  | index =>
    simp only at h
    split at h
    · rename_i hs
      obtain ⟨k, hk, rfl⟩ := Option.map_eq_some_iff.mp h
      exact mk_int ow fun Q q => ⟨⟨a, vs, rfl, ha⟩, a, u, y, zs, vs, rfl, rfl, da.dp, hy.dp, by simpa [PyData.canLay0] using SeqAt.canLay_of_shaped hs.2, hs.1, .inr ha, _, hk, q⟩
    · cases h
  | count =>
    simp only at h
    split at h
    · rename_i hs
      cases h
      exact mk_int ow fun Q q => ⟨⟨a, vs, rfl, ha⟩, a, u, y, zs, vs, rfl, rfl, da.dp, hy.dp, by simpa [PyData.canLay0] using SeqAt.canLay_of_shaped hs.2, hs.1, .inr ha, q⟩
    · cases h
theorem mtF_kind {x : PyData} {ys : List PyData} {r : R} {m : Mt} (h : mtF m x ys = some r) : (∃ y, ys = [y]) ∧ ((∃ zs, x = .list zs) ∨ ∃ zs, x = .tuple zs) := by
  unfold mtF at h
  split at h
  · exact ⟨⟨_, rfl⟩, .inl ⟨_, rfl⟩⟩
  · exact ⟨⟨_, rfl⟩, .inr ⟨_, rfl⟩⟩
  · exact ⟨⟨_, rfl⟩, .inl ⟨_, rfl⟩⟩
  · exact ⟨⟨_, rfl⟩, .inr ⟨_, rfl⟩⟩
  · cases h
theorem slot_mtL (m : Mt) : Slot "list" (mtN m) (mtIdL m) := by
  cases m with
  | index => exact PySem.F.slot_list_index
  | count => exact PySem.F.slot_list_count
theorem slot_mtT (m : Mt) : Slot "tuple" (mtN m) (mtIdT m) := by
  cases m with
  | index => exact PySem.F.slot_tuple_index
  | count => exact PySem.F.slot_tuple_count
theorem type_mtL (m : Mt) : typeOf (.builtin (mtIdL m)) = pure (.type "method_descriptor") := by
  cases m with
  | index => exact PySem.F.type_list_index
  | count => exact PySem.F.type_list_count
theorem type_mtT (m : Mt) : typeOf (.builtin (mtIdT m)) = pure (.type "method_descriptor") := by
  cases m with
  | index => exact PySem.F.type_tuple_index
  | count => exact PySem.F.type_tuple_count
theorem okE_mt {m : Mt} {o : CE} {eo : Expr} (hu : X.A.units + 65 < cLine) (ho : OkB X Φ o eo) (h : OkBs X Φ cs [e]) (hbase : attributeBase eo (mtN m) X.env (eval eo X.env) = eval eo X.env) (hl : (apos.endLine == pos.line) = true) (hn : notStar e = true) :
    OkE X Φ (.mt m o cs) (.Call (.Attribute eo (mtN m) apos) [e] [] pos) := by
  intro ρ r ρ' hv σ H O rp Q q
  rw [ev] at hv
  obtain ⟨⟨y, ρ1⟩, h1, hv⟩ := Option.bind_eq_some_iff.mp hv
  obtain ⟨x0, h0, hv⟩ := Option.bind_eq_some_iff.mp hv
  obtain ⟨⟨as, ρ2⟩, h2, hv⟩ := Option.bind_eq_some_iff.mp hv
  obtain ⟨x, h3, hv⟩ := Option.bind_eq_some_iff.mp hv
  simp only at h0 hv
  split at hv
  rotate_left
  · cases hv
  rename_i hkd
  obtain ⟨ys, h4, hv⟩ := Option.bind_eq_some_iff.mp hv
  obtain ⟨r', h5, e2⟩ := Option.map_eq_some_iff.mp hv
  cases e2
  obtain ⟨⟨d, rfl⟩, hk⟩ := mtF_kind h5
  have hn1 : [e].all notStar = true := by rw [List.all_cons, hn]; rfl
  rcases hk with hk | hk
  · refine of_pe (pe_bmX PySem.F.plainAttrs_list (slot_mtL m) (type_mtL m) (mt_list hu m) pe_wp pa_wp hbase hl hn1 (by show 1 < 25; decide)) ?_
    refine ho ρ y ρ1 h1 σ H O rp _ fun v H1 O1 n1 r1 => ⟨?_, ?_⟩
    · have hl0 : ∃ p xs, v = .ref p ∧ SqL X.K H1 p xs := by
        obtain ⟨zs, rfl⟩ := hk
        have : ∃ zs0, x0 = .list zs0 := by
          cases x0 <;> simp [kindOf] at hkd
          exact ⟨_, rfl⟩
        obtain ⟨zs0, rfl⟩ := this
        obtain ⟨a, vs, rfl, ha, _⟩ := (rd_ok n1.rp r1 h0).list
        exact ⟨a, vs, rfl, SqL.of ha⟩
      exact .inl ⟨rfl, hl0⟩
    · refine h ρ1 as _ h2 σ H1 O1 n1.rp _ fun us H2 O2 n2 r2 => ?_
      have n := n1.trans rp n2
      obtain ⟨u, rfl, hu2⟩ := (rds_ok n.rp (r2.from fun a z => n1.base z) h4).one
      exact n.made rp (mtF_ok n.rp.dom (rd_ok n.rp (r1.nx n1.rp (n1.nown rp) n2) h3) hu2 h5 hk) q
  · refine of_pe (pe_bmX PySem.F.plainAttrs_tuple (slot_mtT m) (type_mtT m) (mt_tup hu m) pe_wp pa_wp hbase hl hn1 (by show 1 < 25; decide)) ?_
    refine ho ρ y ρ1 h1 σ H O rp _ fun v H1 O1 n1 r1 => ⟨?_, ?_⟩
    · have hl0 : ∃ p xs, v = .ref p ∧ TX X.K H1 p xs := by
        obtain ⟨zs, rfl⟩ := hk
        have : ∃ zs0, x0 = .tuple zs0 := by
          cases x0 <;> simp [kindOf] at hkd
          exact ⟨_, rfl⟩
        obtain ⟨zs0, rfl⟩ := this
        obtain ⟨a, vs, rfl, ha, _⟩ := (rd_ok n1.rp r1 h0).tup
        exact ⟨a, vs, rfl, ha⟩
      exact .inr ⟨rfl, hl0⟩
    · refine h ρ1 as _ h2 σ H1 O1 n1.rp _ fun us H2 O2 n2 r2 => ?_
      have n := n1.trans rp n2
      obtain ⟨u, rfl, hu2⟩ := (rds_ok n.rp (r2.from fun a z => n1.base z) h4).one
      exact n.made rp (mtF_okT n.rp.dom (rd_ok n.rp (r1.nx n1.rp (n1.nown rp) n2) h3) hu2 h5 hk) q
end
end DI

/-! DI10: calls of defs. -/
namespace DI
open PySem L2
abbrev Sg := List V → Hp → VK → Prop
def noX : CXT := fun _ _ _ _ _ _ => False
def noE : XK := fun _ _ _ => False
/-- what a def promises where no guard stands -/
structure FnG (P : Program) (w : World) (K : PySem.W.Frag) (mg : Str → Option Value) (base : Heap) (k : Nat) (f : Addr) (fd : FuncData) (ps : List Str) (sp : Sg) : Prop where
  len : ∀ vs H Q, sp vs H Q → vs.length = ps.length
  run : ∀ (A : Around) (outer : List PySem.Env) (s : Shared) (H : Hp) (args : Args) (us : List Value) (vs : List V) (Q : VK), Room k A → A.guards = some [] → Env0 P w K mg base A outer s H → BindsTo s fd args (ps.zip us) → Vals vs us → sp vs H Q →
    codeAny (model P w) A (.call (.ref f) args) (CR noX outer P w H s Q noE) s
theorem FnG.mono {P : Program} {w : World} {K : PySem.W.Frag} {mg : Str → Option Value} {base : Heap} {j k : Nat} {f : Addr} {fd : FuncData} {ps : List Str} {sp : Sg} (F : FnG P w K mg base j f fd ps sp) (h : j ≤ k) : FnG P w K mg base k f fd ps sp :=
  ⟨F.len, fun A outer s H args us vs Q hr => F.run A outer s H args us vs Q (hr.mono h)⟩
section
variable {X : Cx} {k : Nat} {f : Addr} {fd : FuncData} {ps : List Str} {sp : Sg} {x : Str} {p pos : Pos} {es : List Expr}
def tCallG (sp : Sg) (t : TA) : TE := fun σ H Q => t σ H fun vs H1 => sp vs H1 Q
theorem run_fnG {pins : List (Addr × Obj)} {σ : L2.St} {H : Hp} {s : Shared} {Q : VK} {us : List Value} {vs : List V} (F : FnG X.prog X.w X.K X.mg X.base k f fd ps sp) (hr : Room k X.A) (hgd : X.A.guards = some []) (hb : Binds X.K fd ps [])
    (I : Inv X pins σ H s) (r : Vals vs us) (h : sp vs H Q) : wpAny (model X.prog X.w) X.A (call (.ref f) us) (EP X pins σ Q) X.xe s := by
  have hl : us.length = ps.length := (r.length.symm).trans (F.len vs H Q h)
  have hbind := hb s us I.kIn (by simpa using hl)
  rw [List.append_nil] at hbind
  have hrun := F.run X.A X.stack s H { pos := us, kw := [] } us vs Q hr hgd I.env0 hbind r h
  refine wpAny_call (codeAny_mono hrun ?_)
  intro res s2 hres
  match res, hres with
  | .ok (.ret u), hres => exact I.after hres
  | .ok .next, hres => cases hres
  | .ok .brk, hres => cases hres
  | .ok .cont, hres => cases hres
  | .error e, hres => cases hres
theorem pe_callG {e : Expr} (F : FnG X.prog X.w X.K X.mg X.base k f fd ps sp) (hr : Room k X.A) (hgd : X.A.guards = some []) (hg : Gl X x) (hm : X.mg x = some (.ref f)) (hk : PySem.W.keepIn X.K (.ref f) = true) (hb : Binds X.K fd ps [])
    (hn : (e :: es).all notStar = true) (hdb : (x == ("__debug__" : Str)) = false) : PE X (.Call (.Name x p) (e :: es) [] pos) (tCallG sp (twa X (e :: es))) := by
  constructor
  intro pins s σ H Q I h
  apply wpAny_Call_Name_kw (ld_glob I hg hm ?_ hdb)
  rw [List.all_cons, Bool.and_eq_true] at hn
  refine PySem.W.callWith_K (h₀ := X.base) I.ok.mod.kin hk (thn (h pos pins s I) fun us s1 ⟨vs, H1, I1, r1, q⟩ => ⟨I1.kIn, run_fnG F hr hgd hb I1 r1 q⟩) (star_cons hn.1) (star_plain hn.2)
theorem pe_callG0 (F : FnG X.prog X.w X.K X.mg X.base k f fd ps sp) (hr : Room k X.A) (hgd : X.A.guards = some []) (hg : Gl X x) (hm : X.mg x = some (.ref f)) (hk : PySem.W.keepIn X.K (.ref f) = true) (hb : Binds X.K fd ps [])
    (hdb : (x == ("__debug__" : Str)) = false) : PE X (.Call (.Name x p) [] [] pos) (tCallG sp tNil) := by
  constructor
  intro pins s σ H Q I h
  apply wpAny_Call_Name_kw (ld_glob I hg hm ?_ hdb)
  exact PySem.W.callWith_K0 I.kIn hk (run_fnG F hr hgd hb I .nil h)
end
/-! ### what a def of the core promises -/
def spG (K : PySem.W.Frag) (φ : List R → Option (R × List R)) : Sg := fun vs H Q => ∃ args r outs O, φ args = some (r, outs) ∧ Rp K H O (args.map some) (vs.map some) ∧
  ∀ v H' O', Nx K H O (args.map some) (vs.map some) H' O' (outs.map some) → RsT K H H' O' r v → Q v H'
theorem gt_map : ∀ (rs : List R) (i : Nat), gt (rs.map some) i = rs[i]?
  | [], i => by simp [gt]
  | r :: rs, 0 => by simp [gt]
  | r :: rs, i + 1 => by simp [gt, gt_map rs i]
theorem wb_len : ∀ (as : List Arg) (rs : List R) (ρ : Rho), (wb as rs ρ).length = ρ.length
  | .s i :: as, r :: rs, ρ => by rw [wb, wb_len as rs, List.length_set]
  | .v _ :: as, _ :: rs, ρ => by rw [wb, wb_len as rs]
  | [], _, ρ => by rw [wb] <;> intros <;> contradiction
  | .s _ :: _, [], ρ => by rw [wb] <;> intros <;> contradiction
  | .v _ :: _, [], ρ => by rw [wb] <;> intros <;> contradiction
theorem wb_out : ∀ (as : List Arg) (rs : List R) (ρ : Rho) (i : Nat), i ∉ as.filterMap Arg.slot? → gt (wb as rs ρ) i = gt ρ i
  | .s j :: as, r :: rs, ρ, i, h => by
    rw [List.filterMap_cons, show Arg.slot? (.s j) = some j from rfl] at h
    simp only [List.mem_cons, not_or] at h
    rw [wb, wb_out as rs _ i h.2, gt_set, if_neg fun c => h.1 c.1.symm]
  | .v x :: as, _ :: rs, ρ, i, h => by
    rw [List.filterMap_cons, show Arg.slot? (.v x) = none from rfl] at h
    rw [wb, wb_out as rs _ i h]
  | [], _, ρ, i, h => by rw [wb] <;> intros <;> contradiction
  | .s _ :: _, [], ρ, i, h => by rw [wb] <;> intros <;> contradiction
  | .v _ :: _, [], ρ, i, h => by rw [wb] <;> intros <;> contradiction
theorem wb_in : ∀ (as : List Arg) (rs : List R) (ρ : Rho) (p i : Nat) (r : R), (as.filterMap Arg.slot?).Nodup → as[p]? = some (.s i) → rs[p]? = some r → i < ρ.length → gt (wb as rs ρ) i = some r
  | .s j :: as, r :: rs, ρ, 0, i, q, nd, h1, h2, hi => by
    simp only [List.getElem?_cons_zero, Option.some.injEq, Arg.s.injEq] at h1 h2
    subst h1 h2
    rw [List.filterMap_cons, show Arg.slot? (.s j) = some j from rfl] at nd
    rw [wb, wb_out as rs _ j (List.nodup_cons.mp nd).1, gt_set, if_pos ⟨rfl, hi⟩]
  | .v x :: as, r :: rs, ρ, 0, i, q, nd, h1, h2, hi => by simp at h1
  | .s j :: as, r :: rs, ρ, p + 1, i, q, nd, h1, h2, hi => by
    rw [List.filterMap_cons, show Arg.slot? (.s j) = some j from rfl] at nd
    rw [wb]
    exact wb_in as rs _ p i q (List.nodup_cons.mp nd).2 (by simpa using h1) (by simpa using h2) (by rw [List.length_set]; exact hi)
  | .v x :: as, r :: rs, ρ, p + 1, i, q, nd, h1, h2, hi => by
    rw [List.filterMap_cons, show Arg.slot? (.v x) = none from rfl] at nd
    rw [wb]
    exact wb_in as rs _ p i q nd (by simpa using h1) (by simpa using h2) hi
  | [], _, ρ, p, i, q, nd, h1, h2, hi => by simp at h1
  | _ :: _, [], ρ, p, i, q, nd, h1, h2, hi => by simp at h2
theorem ras_len {ρ : Rho} : ∀ {as : List Arg} {rs : List R}, ras ρ as = some rs → rs.length = as.length
  | [], _, h => by cases h; rfl
  | a :: as, rs, h => by
    obtain ⟨x, hx, h⟩ := Option.bind_eq_some_iff.mp (show (ra ρ a).bind (fun x => (ras ρ as).map (x :: ·)) = some rs from h)
    obtain ⟨ys, hy, rfl⟩ := Option.map_eq_some_iff.mp h
    simp [ras_len hy]
theorem ras_get {ρ : Rho} : ∀ {as : List Arg} {rs : List R} {p : Nat} {r : R}, ras ρ as = some rs → rs[p]? = some r → ∃ a, as[p]? = some a ∧ ra ρ a = some r
  | [], _, p, r, h, e => by cases h; simp at e
  | a :: as, rs, p, r, h, e => by
    obtain ⟨x, hx, h⟩ := Option.bind_eq_some_iff.mp (show (ra ρ a).bind (fun x => (ras ρ as).map (x :: ·)) = some rs from h)
    obtain ⟨ys, hy, rfl⟩ := Option.map_eq_some_iff.mp h
    cases p with
    | zero =>
      simp only [List.getElem?_cons_zero, Option.some.injEq] at e
      subst e
      exact ⟨a, rfl, hx⟩
    | succ p =>
      obtain ⟨b, h1, h2⟩ := ras_get hy (show ys[p]? = some r by simpa using e)
      exact ⟨b, by simpa using h1, h2⟩
theorem slot_mem {as : List Arg} {p i : Nat} (h : as[p]? = some (Arg.s i)) : i ∈ as.filterMap Arg.slot? := List.mem_filterMap.mpr ⟨_, List.mem_of_getElem? h, rfl⟩
theorem slot_of {as : List Arg} {i : Nat} (h : i ∈ as.filterMap Arg.slot?) : ∃ p : Nat, as[p]? = some (Arg.s i) := by
  obtain ⟨a, m, e⟩ := List.mem_filterMap.mp h
  cases a with
  | v _ => cases e
  | s j =>
    cases e
    obtain ⟨p, hp⟩ := List.mem_iff_getElem?.mp m
    exact ⟨p, hp⟩
theorem slot_one : ∀ {as : List Arg} {p q i : Nat}, (as.filterMap Arg.slot?).Nodup → as[p]? = some (.s i) → as[q]? = some (.s i) → p = q
  | [], p, q, i, _, h, _ => by simp at h
  | a :: as, 0, 0, i, _, _, _ => rfl
  | a :: as, 0, q + 1, i, nd, h1, h2 => by
    simp only [List.getElem?_cons_zero, Option.some.injEq] at h1
    subst h1
    rw [List.filterMap_cons, show Arg.slot? (.s i) = some i from rfl] at nd
    exact ((List.nodup_cons.mp nd).1 (slot_mem (by simpa using h2))).elim
  | a :: as, p + 1, 0, i, nd, h1, h2 => by
    simp only [List.getElem?_cons_zero, Option.some.injEq] at h2
    subst h2
    rw [List.filterMap_cons, show Arg.slot? (.s i) = some i from rfl] at nd
    exact ((List.nodup_cons.mp nd).1 (slot_mem (by simpa using h1))).elim
  | a :: as, p + 1, q + 1, i, nd, h1, h2 => by
    have nd' : (as.filterMap Arg.slot?).Nodup := by
      rw [List.filterMap_cons] at nd
      split at nd
      · exact nd
      · exact (List.nodup_cons.mp nd).2
    rw [slot_one nd' (show as[p]? = some (.s i) by simpa using h1) (show as[q]? = some (.s i) by simpa using h2)]
section
variable {K : PySem.W.Frag} {H H0 H1 : Hp} {O O1 : List Addr} {ρ : Rho} {σ : L2.St}
theorem PdA.length : ∀ {as : List Arg} {vs : List V}, PdA K H0 H O σ as vs → as.length = vs.length
  | _, _, .nil => rfl
  | _, _, .cons _ _ t => by simp [PdA.length t]
theorem PdA.get : ∀ {as : List Arg} {vs : List V} {p : Nat} {a : Arg}, PdA K H0 H O σ as vs → as[p]? = some a → ∃ v, vs[p]? = some v ∧ RsA K H0 H O σ a v
  | _, _, p, a, .nil, e => by simp at e
  | _, _, 0, a, .cons h _ _, e => by simp at e; subst e; exact ⟨_, rfl, h⟩
  | _, _, p + 1, a, .cons _ _ t, e => by
    obtain ⟨v, h1, h2⟩ := PdA.get t (show _[p]? = some a by simpa using e)
    exact ⟨v, by simpa using h1, h2⟩
theorem PdA.two : ∀ {as : List Arg} {vs : List V} {p q : Nat} {xs ys : List PyData} {v : V}, PdA K H0 H O σ as vs → as[p]? = some (.v (.l xs)) → as[q]? = some (.v (.l ys)) → vs[p]? = some v → vs[q]? = some v → p = q
  | _, _, p, q, xs, ys, v, .nil, e, _, _, _ => by simp at e
  | _, _, 0, 0, _, _, _, .cons _ _ _, _, _, _, _ => rfl
  | _, _, 0, q + 1, xs, ys, v, .cons (as := as) (vs := vs) h n t, e1, e2, e3, e4 => by
    simp only [List.getElem?_cons_zero, Option.some.injEq] at e1 e3
    simp only [List.getElem?_cons_succ] at e2 e4
    have m : (Arg.v (.l ys), v) ∈ as.zip vs := by
      rw [List.mem_iff_getElem?]
      refine ⟨q, ?_⟩
      rw [List.getElem?_zip_eq_some]
      exact ⟨e2, e4⟩
    exact (n _ m ⟨ys, rfl⟩ ⟨xs, e1⟩ e3.symm).elim
  | _, _, p + 1, 0, xs, ys, v, .cons (as := as) (vs := vs) h n t, e1, e2, e3, e4 => by
    simp only [List.getElem?_cons_zero, Option.some.injEq] at e2 e4
    simp only [List.getElem?_cons_succ] at e1 e3
    have m : (Arg.v (.l xs), v) ∈ as.zip vs := by
      rw [List.mem_iff_getElem?]
      refine ⟨p, ?_⟩
      rw [List.getElem?_zip_eq_some]
      exact ⟨e1, e3⟩
    exact (n _ m ⟨xs, rfl⟩ ⟨ys, e2⟩ e4.symm).elim
  | _, _, p + 1, q + 1, xs, ys, v, .cons h n t, e1, e2, e3, e4 => by
    rw [PdA.two t (by simpa using e1) (by simpa using e2) (show _[p]? = some v by simpa using e3) (by simpa using e4)]
theorem get_map_some {α : Type} {xs : List α} {i : Nat} {x : α} (h : (xs.map some)[i]? = some (some x)) : xs[i]? = some x := by
  rw [List.getElem?_map] at h
  cases e : xs[i]? with
  | none => rw [e] at h; cases h
  | some y => rw [e] at h; cases h; rfl
/-- an own list at an argument: a slot's or a new one -/
theorem own_arg {as : List Arg} {vs : List V} {rs : List R} (pd : PdA K H0 H O σ as vs) (hr : ras ρ as = some rs) {p : Nat} {xs : List PyData} {a : Addr} (h : rs[p]? = some (.l xs)) (hv : vs[p]? = some (.ref a)) :
    (∃ i, as[p]? = some (.s i) ∧ gt ρ i = some (.l xs) ∧ σ[i]? = some (some (.ref a))) ∨ (as[p]? = some (.v (.l xs)) ∧ H0 a = none) := by
  obtain ⟨g, h1, h2⟩ := ras_get hr h
  obtain ⟨v, h3, h4⟩ := pd.get h1
  rw [hv] at h3
  cases h3
  cases g with
  | s i =>
    refine .inl ⟨i, h1, ?_, h4⟩
    unfold ra at h2
    simp only at h2
    split at h2
    · rename_i ys e
      cases h2
      exact e
    · cases h2
  | v r =>
    cases h2
    obtain ⟨b, ws, e, _, hn, _⟩ := h4
    cases e
    exact .inr ⟨h1, hn⟩
theorem args_rp {as : List Arg} {vs : List V} {rs : List R} (rp : Rp K H O ρ σ) (hS : ∀ a, Own ρ σ a → H0 a ≠ none) (pd : PdA K H0 H O σ as vs) (hr : ras ρ as = some rs) (nd : (as.filterMap Arg.slot?).Nodup) : Rp K H O (rs.map some) (vs.map some) where
  len := by rw [List.length_map, List.length_map, ras_len hr, pd.length]
  slot := fun i r h => by
    rw [gt_map] at h
    obtain ⟨g, h1, h2⟩ := ras_get hr h
    obtain ⟨v, h3, h4⟩ := pd.get h1
    refine ⟨v, by rw [List.getElem?_map, h3]; rfl, ?_⟩
    cases g with
    | s j =>
      unfold ra at h2
      simp only at h2
      split at h2
      · rename_i ys e
        cases h2
        obtain ⟨v', e1, e2⟩ := rp.slot j _ e
        rw [show σ[j]? = some (some v) from h4] at e1
        cases e1
        exact e2
      · cases h2
    | v r' =>
      cases h2
      cases r with
      | d x => exact h4
      | s xs => exact h4
      | k ds => exact h4
      | l xs =>
        obtain ⟨a, ws, e, m, _, ha, d⟩ := h4
        exact ⟨a, ws, e, m, ha, d⟩
  apart := fun i j xs ys a h1 h2 e1 e2 => by
    rw [gt_map] at h1 h2
    have e1 := get_map_some e1
    have e2 := get_map_some e2
    rcases own_arg pd hr h1 e1 with ⟨m, a1, a2, a3⟩ | ⟨a1, a2⟩
    · rcases own_arg pd hr h2 e2 with ⟨n, b1, b2, b3⟩ | ⟨b1, b2⟩
      · have := rp.apart m n _ _ a a2 b2 a3 b3
        subst this
        exact slot_one nd a1 b1
      · exact (hS a ⟨m, _, a2, a3⟩ b2).elim
    · rcases own_arg pd hr h2 e2 with ⟨n, b1, b2, b3⟩ | ⟨b1, b2⟩
      · exact (hS a ⟨n, _, b2, b3⟩ a2).elim
      · exact pd.two a1 b1 e1 e2
  dom := rp.dom
/-- behind a call -/
theorem call_nx {H2 H3 : Hp} {O2 O3 : List Addr} {ρ0 ρ2 : Rho} {as : List Arg} {vs : List V} {rs outs : List R} (rp : Rp K H O ρ0 σ) (n : Nx K H O ρ0 σ H2 O2 ρ2) (pd : PdA K H H2 O2 σ as vs) (hr : ras ρ2 as = some rs) (nd : (as.filterMap Arg.slot?).Nodup)
    (m : Nx K H2 O2 (rs.map some) (vs.map some) H3 O3 (outs.map some)) : Nx K H O ρ0 σ H3 O3 (wb as outs ρ2) := by
  have own1 : ∀ a, Own (rs.map some) (vs.map some) a → Own ρ2 σ a ∨ H a = none := fun a ⟨p, xs, h1, h2⟩ => by
    rw [gt_map] at h1
    rcases own_arg pd hr h1 (get_map_some h2) with ⟨i, _, a2, a3⟩ | ⟨_, a2⟩
    · exact .inl ⟨i, xs, a2, a3⟩
    · exact .inr a2
  have hlen : outs.length = as.length := by
    have := m.rp.len
    rw [List.length_map, List.length_map] at this
    rw [this, pd.length]
  have inO : ∀ a, Own (rs.map some) (vs.map some) a → a ∈ O2 := fun a h => (args_rp n.rp (n.nown rp) pd hr nd).own_mem h
  -- a slot that is an argument
  have isA : ∀ (i p : Nat), as[p]? = some (Arg.s i) → ∃ (xs : List PyData) (a : Addr) (v : V), gt ρ2 i = some (R.l xs) ∧ v = .ref a ∧ σ[i]? = some (some v) ∧ vs[p]? = some v ∧ rs[p]? = some (R.l xs) := fun i p h => by
    have hp : p < rs.length := by
      rw [ras_len hr]
      exact (List.getElem?_eq_some_iff.mp h).1
    obtain ⟨r0, hr0⟩ : ∃ r0, rs[p]? = some r0 := ⟨_, List.getElem?_eq_getElem hp⟩
    obtain ⟨g, h1, h2⟩ := ras_get hr hr0
    rw [h] at h1
    cases h1
    obtain ⟨v, h3, h4⟩ := pd.get h
    unfold ra at h2
    simp only at h2
    split at h2
    · rename_i ys e
      cases h2
      obtain ⟨v', e1, a, ws, e2, _⟩ := n.rp.slot i _ e
      have h4 : σ[i]? = some (some v) := h4
      rw [h4] at e1
      cases e1
      exact ⟨ys, a, v, e, e2, h4, h3, hr0⟩
    · cases h2
  have atA : ∀ (i p : Nat), as[p]? = some (Arg.s i) → ∃ r, outs[p]? = some r ∧ gt (wb as outs ρ2) i = some r := fun i p h => by
    have hp : p < outs.length := by
      rw [hlen]
      exact (List.getElem?_eq_some_iff.mp h).1
    obtain ⟨xs, a, v, g, _⟩ := isA i p h
    exact ⟨_, List.getElem?_eq_getElem hp, wb_in as outs ρ2 p i _ nd h (List.getElem?_eq_getElem hp) (gt_lt g)⟩
  have st : Stp H2 O2 (Own (rs.map some) (vs.map some)) H3 O3 := m.st
  refine ⟨n.st.trans st (fun a h => (own1 a h).imp (n.own a) id) rp.dom, ?_, ?_⟩
  · constructor
    · rw [wb_len]; exact n.rp.len
    · intro i r h
      by_cases c : i ∈ as.filterMap Arg.slot?
      · obtain ⟨p, hp⟩ := slot_of c
        obtain ⟨q, h1, h2⟩ := atA i p hp
        obtain ⟨xs, a, v, g, ev, hs, hv, _⟩ := isA i p hp
        rw [h2] at h
        cases h
        obtain ⟨v', e1, e2⟩ := m.rp.slot p r (by rw [gt_map]; exact h1)
        have e1 := get_map_some e1
        rw [hv] at e1
        cases e1
        exact ⟨v, hs, e2⟩
      · rw [wb_out as outs ρ2 i c] at h
        refine n.rp.slot_step st inO h fun a ha ⟨xs, e⟩ ⟨p, ys, h1, h2⟩ => ?_
        subst e
        rw [gt_map] at h1
        rcases own_arg pd hr h1 (get_map_some h2) with ⟨j, a1, a2, a3⟩ | ⟨_, a2⟩
        · have := n.rp.apart i j _ _ a h a2 ha a3
          subst this
          exact c (slot_mem a1)
        · exact n.nown rp a ⟨i, xs, h, ha⟩ a2
    · intro i j xs ys a h1 h2 e1 e2
      have mixed : ∀ i j xs ys, gt (wb as outs ρ2) i = some (.l xs) → gt ρ2 j = some (.l ys) → σ[i]? = some (some (.ref a)) → σ[j]? = some (some (.ref a)) → i ∈ as.filterMap Arg.slot? → j ∉ as.filterMap Arg.slot? → False := fun i j xs ys h1 h2 e1 e2 ci cj => by
        obtain ⟨p, hp⟩ := slot_of ci
        obtain ⟨zs, b, v, g, ev, hs, hv, hrs⟩ := isA i p hp
        rw [e1] at hs
        cases hs
        have := n.rp.apart i j _ _ a g h2 e1 e2
        subst this
        exact cj ci
      by_cases ci : i ∈ as.filterMap Arg.slot?
      · by_cases cj : j ∈ as.filterMap Arg.slot?
        · obtain ⟨p, hp⟩ := slot_of ci
          obtain ⟨q, hq⟩ := slot_of cj
          obtain ⟨zs, b, v, g, ev, hs, hv, hrs⟩ := isA i p hp
          obtain ⟨zs', b', v', g', ev', hs', hv', hrs'⟩ := isA j q hq
          rw [e1] at hs
          cases hs
          rw [e2] at hs'
          cases hs'
          exact n.rp.apart i j _ _ a g g' e1 e2
        · rw [wb_out as outs ρ2 j cj] at h2
          exact (mixed i j xs ys h1 h2 e1 e2 ci cj).elim
      · rw [wb_out as outs ρ2 i ci] at h1
        by_cases cj : j ∈ as.filterMap Arg.slot?
        · exact (mixed j i ys xs h2 h1 e2 e1 cj ci).elim
        · rw [wb_out as outs ρ2 j cj] at h2
          exact n.rp.apart i j xs ys a h1 h2 e1 e2
    · exact m.rp.dom
  · intro i xs h1
    by_cases c : i ∈ as.filterMap Arg.slot?
    · obtain ⟨p, hp⟩ := slot_of c
      obtain ⟨zs, b, v, g, ev, hs, hv, hrs⟩ := isA i p hp
      exact n.ls i zs g
    · rw [wb_out as outs ρ2 i c] at h1
      exact n.ls i xs h1
end
section
variable {X : Cx} {Φ : Phi} {cs : CEs} {es : List Expr} {p pos : Pos} {k : Nat} {f : Addr} {fd : FuncData} {ps : List Str} {x : Str}
theorem okE_call {n : Nat} {io : List Bool} (F : FnG X.prog X.w X.K X.mg X.base k f fd ps (spG X.K (Φ n))) (hr : Room k X.A) (hgd : X.A.guards = some []) (hg : Gl X x) (hm : X.mg x = some (.ref f)) (hk : PySem.W.keepIn X.K (.ref f) = true) (hb : Binds X.K fd ps [])
    (hn : es.all notStar = true) (hz : es = [] → cs = .nil) (hdb : (x == ("__debug__" : Str)) = false) (h : OkA X Φ io cs es) : OkE X Φ (.call n io cs) (.Call (.Name x p) es [] pos) := by
  intro ρ r ρ' hv σ H O rp Q q
  rw [ev] at hv
  obtain ⟨⟨as, ρ2⟩, h1, hv⟩ := Option.bind_eq_some_iff.mp hv
  simp only at hv
  split at hv
  rotate_left
  · cases hv
  rename_i nd
  obtain ⟨rs, h2, hv⟩ := Option.bind_eq_some_iff.mp hv
  obtain ⟨⟨r', outs⟩, h3, e⟩ := Option.map_eq_some_iff.mp hv
  cases e
  have key : ∀ vs H2 O2, Nx X.K H O ρ σ H2 O2 ρ2 → PdA X.K H H2 O2 σ as vs → spG X.K (Φ n) vs H2 Q := fun vs H2 O2 n2 pd =>
    ⟨rs, _, outs, O2, h3, args_rp n2.rp (n2.nown rp) pd h2 nd, fun v H3 O3 m hR => q v H3 O3 (call_nx rp n2 pd h2 nd m) (hR.from fun a z => n2.base z)⟩
  cases es with
  | nil =>
    cases hz rfl
    have e0 : some (([] : List Arg), ρ) = some (as, ρ2) := by
      rw [← h1]
      cases io <;> rw [eva]
    cases e0
    exact of_pe (pe_callG0 F hr hgd hg hm hk hb hdb) (key [] H O (Nx.refl rp) .nil)
  | cons e0 er => exact of_pe (pe_callG F hr hgd hg hm hk hb hn hdb) (h ρ as _ h1 σ H O rp _ key)
end
end DI

/-! DI11: targets, sources. -/
namespace DI
open PySem L2
section
variable (X : Cx)
def twg (tg : Expr) : TG := fun v σ H Q => ∀ (pins : List (Addr × Obj)) (s : Shared) (u : Value), Inv X pins σ H s → RelV v u →
  wpAny (model X.prog X.w) X.A (assign tg X.env u) (fun _ s' => ∃ σ' H', Inv X pins σ' H' s' ∧ Q σ' H') X.xe s
def twgs (ts : List Expr) : TGs := fun vs σ H Q => ∀ (pins : List (Addr × Obj)) (s : Shared) (us : List Value), Inv X pins σ H s → Vals vs us →
  wpAny (model X.prog X.w) X.A (assignInOrder ((assignEach ts X.env).map (·.2)) us) (fun _ s' => ∃ σ' H', Inv X pins σ' H' s' ∧ Q σ' H') X.xe s
end
section
variable {X : Cx} {tg : Expr} {ts : List Expr}
theorem pg_wp : PG X tg (twg X tg) := ⟨fun pins s _ _ _ u _ I r h => h pins s u I r⟩
theorem pgs_wp : PGs X ts (twgs X ts) := ⟨fun pins s _ _ _ us _ I r h => h pins s us I r⟩
theorem of_pg {t : TG} {σ : L2.St} {H : Hp} {v : V} {Q : L2.St → Hp → Prop} (h : PG X tg t) (q : t v σ H Q) : twg X tg v σ H Q := fun pins s u I r => h.run pins s σ H v u Q I r q
theorem of_pgs {t : TGs} {σ : L2.St} {H : Hp} {vs : List V} {Q : L2.St → Hp → Prop} (h : PGs X ts t) (q : t vs σ H Q) : twgs X ts vs σ H Q := fun pins s us I r => h.run pins s σ H vs us Q I r q
theorem each_cons {e : Expr} {es : List Expr} {env : PySem.Env} (h : notStar e = true) : assignEach (e :: es) env = (false, assign e env) :: assignEach es env := by
  cases e <;> first | rfl | cases h
theorem each_len {env : PySem.Env} : ∀ {es : List Expr}, es.all notStar = true → (assignEach es env).length = es.length
  | [], _ => rfl
  | e :: es, h => by
    rw [List.all_cons, Bool.and_eq_true] at h
    rw [each_cons h.1, List.length_cons, List.length_cons, each_len h.2]
theorem each_none {env : PySem.Env} : ∀ {es : List Expr}, es.all notStar = true → (assignEach es env).findIdx? (·.1) = none
  | [], _ => rfl
  | e :: es, h => by
    rw [List.all_cons, Bool.and_eq_true] at h
    rw [each_cons h.1, List.findIdx?_cons]
    have ih := each_none (env := env) h.2
    simp [ih]
end
/-- behind a store: the names at L -/
structure Gx (K : PySem.W.Frag) (io L : List Nat) (H : Hp) (O : List Addr) (ρ : Rho) (σ : L2.St) (H' : Hp) (O' : List Addr) (ρ' : Rho) (σ' : L2.St) : Prop where
  st : Stp H O (fun _ => False) H' O'
  rp : Rp K H' O' ρ' σ'
  own : ∀ a, Own ρ' σ' a → Own ρ σ a ∨ H a = none
  out : ∀ i : Nat, i ∉ L → σ'[i]? = σ[i]? ∧ gt ρ' i = gt ρ i
  io : ∀ i ∈ io, i ∉ L
  sl : σ'.length = σ.length
section
variable {K : PySem.W.Frag} {H H1 H2 : Hp} {O O1 O2 : List Addr} {ρ ρ1 ρ2 : Rho} {σ σ1 σ2 : L2.St} {io L L1 L2' : List Nat}
theorem Stp.base {S : Addr → Prop} (x : Stp H O S H1 O1) {a : Addr} (h : H1 a = none) : H a = none := by
  cases e : H a with
  | none => rfl
  | some o => exact absurd h (x.dom a (by rw [e]; simp))
theorem Gx.refl (rp : Rp K H O ρ σ) : Gx K io [] H O ρ σ H O ρ σ := ⟨Stp.refl, rp, fun _ h => .inl h, fun _ _ => ⟨rfl, rfl⟩, fun _ _ h => (by cases h), rfl⟩
theorem Gx.trans (rp : Rp K H O ρ σ) (x : Gx K io L1 H O ρ σ H1 O1 ρ1 σ1) (y : Gx K io L2' H1 O1 ρ1 σ1 H2 O2 ρ2 σ2) : Gx K io (L1 ++ L2') H O ρ σ H2 O2 ρ2 σ2 where
  st := x.st.trans y.st (fun _ h => h.elim) rp.dom
  rp := y.rp
  own := fun a h => (y.own a h).elim (x.own a) fun z => .inr (x.st.base z)
  out := fun i h => by
    rw [List.mem_append, not_or] at h
    obtain ⟨a1, a2⟩ := x.out i h.1
    obtain ⟨b1, b2⟩ := y.out i h.2
    exact ⟨b1.trans a1, b2.trans a2⟩
  io := fun i hi h => (List.mem_append.mp h).elim (x.io i hi) (y.io i hi)
  sl := y.sl.trans x.sl
theorem Gx.ext (x : Gx K io L H O ρ σ H1 O1 ρ1 σ1) : Ext H O H1 O1 := x.st.ext fun _ h => h.elim
/-- a name is stored -/
theorem Rp.bind (rp : Rp K H O ρ σ) {i : Nat} {r : R} {v : V} (hr : RpR K H O r v) (hf : ∀ xs a, r = .l xs → v = .ref a → ¬ Own ρ σ a) : Rp K H O (ρ.set i (some r)) (σ.set i (some v)) where
  len := by rw [List.length_set, List.length_set]; exact rp.len
  slot := fun j q h => by
    rw [gt_set] at h
    rw [List.getElem?_set]
    by_cases c : i = j ∧ i < ρ.length
    · rw [if_pos c] at h
      cases h
      have : i < σ.length := by rw [← rp.len]; exact c.2
      exact ⟨v, by rw [if_pos c.1, if_pos this], hr⟩
    · rw [if_neg c] at h
      have hj := gt_lt h
      have hij : i ≠ j := fun e => c ⟨e, by rw [e]; exact hj⟩
      rw [if_neg hij]
      exact rp.slot j q h
  apart := fun j k xs ys a h1 h2 e1 e2 => by
    rw [gt_set] at h1 h2
    rw [List.getElem?_set] at e1 e2
    have one : ∀ (j k : Nat) (xs ys : List PyData), (i = j ∧ i < ρ.length) → ¬ (i = k ∧ i < ρ.length) → some r = some (R.l xs) → gt ρ k = some (.l ys) → (if i = j then (if i < σ.length then some (some v) else none) else σ[j]?) = some (some (.ref a)) →
        (if i = k then (if i < σ.length then some (some v) else none) else σ[k]?) = some (some (.ref a)) → False := fun j k xs ys c1 c2 g1 g2 e1 e2 => by
      have hk := gt_lt g2
      have hik : i ≠ k := fun e => c2 ⟨e, by rw [e]; exact hk⟩
      rw [if_neg hik] at e2
      rw [if_pos c1.1, if_pos (by rw [← rp.len]; exact c1.2)] at e1
      have e1' := Option.some.inj (Option.some.inj e1)
      exact hf xs a (Option.some.inj g1) e1' ⟨k, ys, g2, e2⟩
    by_cases c1 : i = j ∧ i < ρ.length
    · by_cases c2 : i = k ∧ i < ρ.length
      · exact c1.1.symm.trans c2.1
      · rw [if_pos c1] at h1
        rw [if_neg c2] at h2
        exact (one _ _ _ _ c1 c2 h1 h2 e1 e2).elim
    · by_cases c2 : i = k ∧ i < ρ.length
      · rw [if_neg c1] at h1
        rw [if_pos c2] at h2
        exact (one _ _ _ _ c2 c1 h2 h1 e2 e1).elim
      · rw [if_neg c1] at h1
        rw [if_neg c2] at h2
        have n1 : i ≠ j := fun e => c1 ⟨e, by rw [e]; exact gt_lt h1⟩
        have n2 : i ≠ k := fun e => c2 ⟨e, by rw [e]; exact gt_lt h2⟩
        rw [if_neg n1] at e1
        rw [if_neg n2] at e2
        exact rp.apart j k xs ys a h1 h2 e1 e2
  dom := rp.dom
theorem setS_some {i : Nat} {r : R} (h : setS io i r ρ = some ρ1) : i ∉ io ∧ i < ρ.length ∧ ρ1 = ρ.set i (some r) := by
  unfold setS at h
  split at h
  · cases h
  · rename_i c
    rw [not_or, Classical.not_not] at c
    cases h
    exact ⟨c.1, c.2, rfl⟩
/-- a name is stored: what changed -/
theorem Gx.bind (rp : Rp K H O ρ σ) {i : Nat} {r : R} {v : V} (h : setS io i r ρ = some ρ1) (hr : RpR K H O r v) (hf : ∀ xs a, r = .l xs → v = .ref a → ¬ Own ρ σ a) (hn : ∀ xs a, r = .l xs → v = .ref a → Own (ρ.set i (some r)) (σ.set i (some v)) a → H a = none ∨ Own ρ σ a) : Gx K io [i] H O ρ σ H O ρ1 (σ.set i (some v)) := by
  obtain ⟨h1, h2, rfl⟩ := setS_some h
  refine ⟨Stp.refl, rp.bind hr hf, fun a q => ?_, fun j hj => ?_, fun j hj hm => (by rw [List.mem_singleton] at hm; subst hm; exact h1 hj), List.length_set⟩
  · have q0 := q
    obtain ⟨j, xs, g, e⟩ := q
    rw [gt_set] at g
    rw [List.getElem?_set] at e
    by_cases c : i = j ∧ i < ρ.length
    · rw [if_pos c] at g
      rw [if_pos c.1, if_pos (by rw [← rp.len]; exact c.2)] at e
      cases g
      cases e
      exact (hn xs a rfl rfl q0).symm
    · rw [if_neg c] at g
      have n : i ≠ j := fun z => c ⟨z, by rw [z]; exact gt_lt g⟩
      rw [if_neg n] at e
      exact .inl ⟨j, xs, g, e⟩
  · rw [List.mem_singleton] at hj
    rw [gt_set, if_neg fun c => hj c.1.symm, List.getElem?_set, if_neg fun c => hj c.symm]
    exact ⟨rfl, rfl⟩
theorem Gx.bindD (rp : Rp K H O ρ σ) {i : Nat} {x : PyData} {v : V} (h : setS io i (.d x) ρ = some ρ1) (hr : Dq K H O x v) : Gx K io [i] H O ρ σ H O ρ1 (σ.set i (some v)) :=
  Gx.bind rp h hr (fun _ _ e => by cases e) fun _ _ e => by cases e
end
/-- what is stored: data, or a pair just made -/
def Yd (pr : Bool) (K : PySem.W.Frag) (H : Hp) (O : List Addr) (x : PyData) (v : V) : Prop :=
  Dq K H O x v ∨ pr = true ∧ ∃ (T : Addr) (a b : PyData) (va vb : V), x = .tuple [a, b] ∧ v = .ref T ∧ H T = some (.tup [va, vb]) ∧ Dq K H O a va ∧ Dq K H O b vb
theorem Yd.tup {pr : Bool} {K : PySem.W.Frag} {H : Hp} {O : List Addr} {xs : List PyData} {v : V} (h : Yd pr K H O (.tuple xs) v) : ∃ a vs, v = .ref a ∧ SqT K H a vs ∧ DqA K H O xs vs := by
  rcases h with h | ⟨_, T, a, b, va, vb, e, rfl, hT, ha, hb⟩
  · cases h with
    | tup h d => exact ⟨_, _, rfl, h.sq, d⟩
  · cases e
    exact ⟨T, [va, vb], rfl, SqT.of hT, .cons ha (.cons hb .nil)⟩
section
variable (X : Cx)
def OkG (pr : Bool) (io : List Nat) (t : CT) (e : Expr) : Prop := ∀ (ρ ρ' : Rho) (x : PyData), bindT io t x ρ = some ρ' → ∀ (σ : L2.St) (H : Hp) (O : List Addr) (v : V), Rp X.K H O ρ σ → Yd pr X.K H O x v → ∀ Q : L2.St → Hp → Prop,
  (∀ σ' H' O', Gx X.K io t.sl H O ρ σ H' O' ρ' σ' → Q σ' H') → twg X e v σ H Q
/-- data only -/
def OkGd (io : List Nat) (t : CT) (e : Expr) : Prop := ∀ (ρ ρ' : Rho) (x : PyData), bindT io t x ρ = some ρ' → ∀ (σ : L2.St) (H : Hp) (O : List Addr) (v : V), Rp X.K H O ρ σ → Dq X.K H O x v → ∀ Q : L2.St → Hp → Prop,
  (∀ σ' H' O', Gx X.K io t.sl H O ρ σ H' O' ρ' σ' → Q σ' H') → twg X e v σ H Q
def OkGs (io : List Nat) (t : CTs) (es : List Expr) : Prop := ∀ (ρ ρ' : Rho) (xs : List PyData), bindTs io t xs ρ = some ρ' → xs.length = t.len → ∀ (σ : L2.St) (H : Hp) (O : List Addr) (vs : List V), Rp X.K H O ρ σ → DqA X.K H O xs vs → ∀ Q : L2.St → Hp → Prop,
  (∀ σ' H' O', Gx X.K io t.sl H O ρ σ H' O' ρ' σ' → Q σ' H') → twgs X es vs σ H Q
end
section
variable {X : Cx} {io : List Nat} {e : Expr} {es : List Expr} {pos : Pos}
theorem OkG.data {pr : Bool} {t : CT} (h : OkG X pr io t e) : OkGd X io t e := fun ρ ρ' x hv σ H O v rp d => h ρ ρ' x hv σ H O v rp (.inl d)
theorem OkGd.g {t : CT} (h : OkGd X io t e) : OkG X false io t e := fun ρ ρ' x hv σ H O v rp y => h ρ ρ' x hv σ H O v rp (y.resolve_right fun z => by cases z.1)
theorem okG_nm {i : Nat} {x : Str} (hN : X.N.Nodup) (hi : X.N[i]? = some x) (hx : Loc X.env.scope x) (hf : X.fn x = true ∨ X.env.scope.names.lookup x = some .local) : OkGd X io (.nm i) (.Name x pos) := by
  intro ρ ρ' d hv σ H O v rp dd Q q
  rw [bindT] at hv
  exact of_pg (pg_name hN hi hx hf) (q _ H O (Gx.bindD rp hv dd))
theorem okGs_nil : OkGs X io .nil [] := by
  intro ρ ρ' xs hv hl σ H O vs rp d Q q
  rw [bindTs] at hv
  cases hv
  cases d with
  | nil => exact of_pgs pgs_nil ⟨rfl, q σ H O (Gx.refl rp)⟩
  | cons _ _ => cases hl
theorem okGs_cons {t : CT} {ts : CTs} (hn : notStar e = true) (h : OkGd X io t e) (hs : OkGs X io ts es) : OkGs X io (.cons t ts) (e :: es) := by
  intro ρ ρ' xs hv hl σ H O vs rp d Q q
  cases d with
  | nil => cases hl
  | cons d ds =>
    rw [bindTs] at hv
    obtain ⟨ρ1, h1, h2⟩ := Option.bind_eq_some_iff.mp hv
    refine of_pgs (pgs_cons pg_wp pgs_wp (by rw [each_cons hn]; rfl)) ⟨_, _, rfl, ?_⟩
    refine h ρ ρ1 _ h1 σ H O _ rp d _ fun σ1 H1 O1 g1 => ?_
    refine hs ρ1 ρ' _ h2 (by simpa [CTs.len] using hl) σ1 H1 O1 _ g1.rp (DqA.ext rp.dom g1.ext ds) _ fun σ2 H2 O2 g2 => ?_
    exact q σ2 H2 O2 (by rw [CTs.sl]; exact g1.trans rp g2)
theorem okG_tp {pr : Bool} {ts : CTs} {k : Nat} (hc : X.calm = true) (hn : es.all notStar = true) (hl : es.length = ts.len) (h : OkGs X io ts es) : OkG X pr io (.tp ts) (.Tuple es k pos) := by
  intro ρ ρ' x hv σ H O v rp y Q q
  cases x with
  | tuple xs =>
    rw [bindT] at hv
    split at hv
    · rename_i hlen
      obtain ⟨a, vs, rfl, sq, d⟩ := y.tup
      refine of_pg (pg_tup hc pgs_wp rfl (each_none hn)) ⟨a, vs, rfl, sq, ?_, ?_⟩
      · rw [each_len hn, hl, ← hlen, d.length]
      · exact h ρ ρ' xs hv hlen σ H O vs rp d Q fun σ' H' O' g => q σ' H' O' (by rw [CT.sl]; exact g)
    · cases hv
  | list xs =>
    rw [bindT] at hv
    split at hv
    · rename_i hlen
      have y' : Dq X.K H O (.list xs) v := y.resolve_right fun z => by
        obtain ⟨_, _, _, _, _, _, e, _⟩ := z
        cases e
      cases y' with
      | lst ha _ d =>
        refine of_pg (pg_unl hc pgs_wp rfl (each_none hn)) ⟨_, _, rfl, SqL.of ha, ?_, ?_⟩
        · rw [each_len hn, hl, ← hlen, d.length]
        · exact h ρ ρ' xs hv hlen σ H O _ rp d Q fun σ' H' O' g => q σ' H' O' (by rw [CT.sl]; exact g)
    · cases hv
  | _ => rw [bindT] at hv <;> first | cases hv | (intros; contradiction)
end
/-! ### sources -/
/-- a source that gives xs -/
def Src (pr : Bool) (K : PySem.W.Frag) (H : Hp) (O : List Addr) (xs : List PyData) (J : It) : Prop :=
  ∃ (G : Hp → Prop) (Y : Nat → Hp → V → Hp → Prop), Walk J xs.length G Y ∧ (∀ H1 O1, Ext H O H1 O1 → G H1) ∧
    ∀ i H1 O1 v H2, i < xs.length → Ext H O H1 O1 → Ow H1 O1 → Y i H1 v H2 → ∃ x, xs[i]? = some x ∧ Stp H1 O1 (fun _ => False) H2 O1 ∧ Ow H2 O1 ∧ Yd pr K H2 O1 x v
/-- .. that gives data -/
def SrcD (K : PySem.W.Frag) (H : Hp) (O : List Addr) (xs : List PyData) (J : It) : Prop :=
  ∃ (G : Hp → Prop) (Y : Nat → Hp → V → Hp → Prop), Walk J xs.length G Y ∧ (∀ H1 O1, Ext H O H1 O1 → G H1) ∧
    ∀ i H1 O1 v H2, i < xs.length → Ext H O H1 O1 → Ow H1 O1 → Y i H1 v H2 → ∃ x, xs[i]? = some x ∧ Stp H1 O1 (fun _ => False) H2 O1 ∧ Ow H2 O1 ∧ Dq K H2 O1 x v
theorem SrcD.src {K : PySem.W.Frag} {H : Hp} {O : List Addr} {xs : List PyData} {J : It} (h : SrcD K H O xs J) : Src false K H O xs J := by
  obtain ⟨G, Y, w, g, y⟩ := h
  refine ⟨G, Y, w, g, fun i H1 O1 v H2 hi x ow hy => ?_⟩
  obtain ⟨d, e, st, ow2, dq⟩ := y i H1 O1 v H2 hi x ow hy
  exact ⟨d, e, st, ow2, .inl dq⟩
section
variable {K : PySem.W.Frag} {H : Hp} {O : List Addr} {xs ys : List PyData} {a b : Addr} {vs ws : List V}
theorem walk_len {J : It} {n m : Nat} {G : Hp → Prop} {Y : Nat → Hp → V → Hp → Prop} (w : Walk J n G Y) (h : n = m) : Walk J m G Y := h ▸ w
theorem SqL.ext {H1 : Hp} {O1 : List Addr} (no : a ∉ O) (h0 : H a = some (.lst vs)) (x : Ext H O H1 O1) : SqL K H1 a vs := SqL.of (x.keep _ _ h0 no)
theorem src_list (ow : Ow H O) (h : H a = some (.lst vs)) (no : a ∉ O) (d : DqA K H O xs vs) : SrcD K H O xs (Itl K a) := by
  have w0 := walk_list (K := K) (a := a) (xs := vs)
  rw [← d.length] at w0
  refine ⟨_, _, w0, fun H1 O1 x => SqL.ext no h x, fun i H1 O1 v H2 hi x ow1 ⟨e, hv⟩ => ?_⟩
  subst e
  obtain ⟨y, h1, h2⟩ := d.get' hv
  exact ⟨y, h1, Stp.refl, ow1, Dq.ext ow x h2⟩
theorem src_tup (ow : Ow H O) (h : TX K H a vs) (d : DqA K H O xs vs) : SrcD K H O xs (Itt K a) := by
  have w0 := walk_tup (K := K) (a := a) (xs := vs)
  rw [← d.length] at w0
  refine ⟨_, _, w0, fun H1 O1 x => (h.ext ow x).sq, fun i H1 O1 v H2 hi x ow1 ⟨e, hv⟩ => ?_⟩
  subst e
  obtain ⟨y, h1, h2⟩ := d.get' hv
  exact ⟨y, h1, Stp.refl, ow1, Dq.ext ow x h2⟩
theorem src_rev (ow : Ow H O) (h : H a = some (.lst vs)) (no : a ∉ O) (d : DqA K H O xs vs) : SrcD K H O xs.reverse (Itv K a vs.length) := by
  have w0 := walk_len (walk_rev (K := K) (a := a) (xs := vs)) (show vs.length = xs.reverse.length by rw [List.length_reverse, d.length])
  refine ⟨_, _, w0, fun H1 O1 x => SqL.ext no h x, fun i H1 O1 v H2 hi x ow1 ⟨e, hv⟩ => ?_⟩
  subst e
  rw [List.length_reverse] at hi
  obtain ⟨y, h1, h2⟩ := d.get' hv
  refine ⟨y, ?_, Stp.refl, ow1, Dq.ext ow x h2⟩
  rw [List.getElem?_reverse hi, d.length]
  exact h1
theorem rngL_len (i j : Int) : (rngL i j).length = (j - i).toNat := by simp [rngL]
theorem src_rng (i j : Int) : SrcD K H O (rngL i j) (Itr i (j - i).toNat) := by
  have w0 := walk_len (walk_range (lo := i) (n := (j - i).toNat)) (rngL_len i j).symm
  refine ⟨_, _, w0, fun _ _ _ => True.intro, fun k H1 O1 v H2 hk x ow1 ⟨e, hv⟩ => ?_⟩
  subst e
  subst hv
  rw [rngL_len] at hk
  refine ⟨.int (i + (k : Nat)), ?_, Stp.refl, ow1, .int _⟩
  simp [rngL, List.getElem?_map, List.getElem?_range hk]
theorem src_str (z : Str) : SrcD K H O (strItems z) (Its z) := by
  have hl : (strItems z).length = z.cps.size := by simp [strItems]
  have w0 := walk_len (walk_str (z := z)) hl.symm
  refine ⟨_, _, w0, fun _ _ _ => True.intro, fun k H1 O1 v H2 hk x ow1 ⟨e, c, hc, hv⟩ => ?_⟩
  subst e
  subst hv
  refine ⟨.str ⟨#[c]⟩, ?_, Stp.refl, ow1, .str _⟩
  simp [strItems, hc]
theorem yd_pair {H1 H2 : Hp} {O1 : List Addr} {T : Addr} {x y : PyData} {v w : V} (hT : H1 T = none) (e : H2 = L2.upd H1 T (.tup [v, w])) (ow1 : Ow H1 O1) (hx : Dq K H1 O1 x v) (hy : Dq K H1 O1 y w) :
    Stp H1 O1 (fun _ => False) H2 O1 ∧ Ow H2 O1 ∧ Yd true K H2 O1 (.tuple [x, y]) (.ref T) := by
  subst e
  have ex : Ext H1 O1 (L2.upd H1 T (.tup [v, w])) O1 := ext_new hT
  exact ⟨Stp.new1 hT, ow1.new hT, .inr ⟨rfl, T, x, y, v, w, rfl, rfl, upd_same, Dq.ext ow1 ex hx, Dq.ext ow1 ex hy⟩⟩
theorem src_enum (ow : Ow H O) (h : H a = some (.lst vs)) (no : a ∉ O) (d : DqA K H O xs vs) : Src true K H O (enumD xs) (Ite K a) := by
  have hl : (enumD xs).length = vs.length := by simp [enumD, d.length]
  have w0 := walk_len (walk_enum (K := K) (a := a) (xs := vs)) hl.symm
  refine ⟨_, _, w0, fun H1 O1 x => SqL.ext no h x, fun i H1 O1 v H2 hi x ow1 ⟨T, p, q, e1, hT, e2, hp, hq⟩ => ?_⟩
  subst e1
  cases hp
  obtain ⟨y, h1, h2⟩ := d.get' hq
  obtain ⟨s1, s2, s3⟩ := yd_pair (K := K) hT e2 ow1 (.int (i : Nat)) (Dq.ext ow x h2)
  refine ⟨_, ?_, s1, s2, s3⟩
  simp [enumD, List.getElem?_zipIdx, h1]
theorem src_zip (ow : Ow H O) (h : H a = some (.lst vs)) (no : a ∉ O) (d : DqA K H O xs vs) (h2 : H b = some (.lst ws)) (no2 : b ∉ O) (d2 : DqA K H O ys ws) : Src true K H O (zipD xs ys) (Itz K a b) := by
  have hl : (zipD xs ys).length = min vs.length ws.length := by simp [zipD, d.length, d2.length]
  refine ⟨_, _, walk_zip hl, fun H1 O1 x => ⟨SqL.ext no h x, SqL.ext no2 h2 x⟩, fun i H1 O1 v H2 hi x ow1 ⟨T, p, q, e1, hT, e2, hp, hq⟩ => ?_⟩
  subst e1
  obtain ⟨y, a1, a2⟩ := d.get' hp
  obtain ⟨z, b1, b2⟩ := d2.get' hq
  obtain ⟨s1, s2, s3⟩ := yd_pair (K := K) hT e2 ow1 (Dq.ext ow x a2) (Dq.ext ow x b2)
  refine ⟨_, ?_, s1, s2, s3⟩
  have : (xs.zip ys)[i]? = some (y, z) := by rw [List.getElem?_zip_eq_some]; exact ⟨a1, b1⟩
  simp [zipD, this]
end
section
variable (X : Cx) (Φ : Phi)
def OkI (pr : Bool) (it : CI) (tg e : Expr) : Prop := ∀ (ρ : Rho) (xs : List PyData) (ρ' : Rho), evI Φ it ρ = some (xs, ρ') → ∀ (σ : L2.St) (H : Hp) (O : List Addr), Rp X.K H O ρ σ → ∀ R : It → Hp → Prop,
  (∀ J H' O', Nx X.K H O ρ σ H' O' ρ' → Src pr X.K H' O' xs J → R J H') → twi X tg e σ H R
/-- .. of data -/
def OkId (it : CI) (tg e : Expr) : Prop := ∀ (ρ : Rho) (xs : List PyData) (ρ' : Rho), evI Φ it ρ = some (xs, ρ') → ∀ (σ : L2.St) (H : Hp) (O : List Addr), Rp X.K H O ρ σ → ∀ R : It → Hp → Prop,
  (∀ J H' O', Nx X.K H O ρ σ H' O' ρ' → SrcD X.K H' O' xs J → R J H') → twi X tg e σ H R
end
section
variable {X : Cx} {Φ : Phi} {c d : CE} {e e2 tg : Expr} {p pos : Pos}
theorem of_pi {t : TI} {σ : L2.St} {H : Hp} {R : It → Hp → Prop} (h : PI X tg e t) (q : t σ H R) : twi X tg e σ H R := fun pins s I => h.run pins s σ H R I q
theorem OkId.src {it : CI} (h : OkId X Φ it tg e) : OkI X Φ false it tg e := fun ρ xs ρ' hv σ H O rp R q => h ρ xs ρ' hv σ H O rp R fun J H' O' n s => q J H' O' n s.src
theorem okI_val (h : OkE X Φ c e) : OkId X Φ (.val c) tg e := by
  intro ρ xs ρ' hv σ H O rp R q
  rw [evI] at hv
  obtain ⟨⟨r, ρ1⟩, h1, hv⟩ := Option.bind_eq_some_iff.mp hv
  obtain ⟨x, h2, hv⟩ := Option.bind_eq_some_iff.mp hv
  obtain ⟨ys, h3, e2⟩ := Option.map_eq_some_iff.mp hv
  cases e2
  cases x with
  | list zs =>
    cases h3
    refine of_pi (pi_list pe_wp) (h.data h1 h2 rp fun v H1 O1 n dq => ?_)
    cases dq with
    | lst ha no dd => exact ⟨_, rfl, ⟨_, SqL.of ha⟩, q _ H1 O1 n (src_list n.rp.dom ha no dd)⟩
  | tuple zs =>
    cases h3
    refine of_pi (pi_tup pe_wp) (h.data h1 h2 rp fun v H1 O1 n dq => ?_)
    cases dq with
    | tup ha dd => exact ⟨_, rfl, ⟨_, ha.sq⟩, q _ H1 O1 n (src_tup n.rp.dom ha dd)⟩
  | str z =>
    cases h3
    refine of_pi (pi_str pe_wp) (h.data h1 h2 rp fun v H1 O1 n dq => ?_)
    cases dq
    exact ⟨z, rfl, q _ H1 O1 n (src_str z)⟩
  | _ => cases h3
theorem smallI_ok {i : Int} (h : smallI i = true) : -(2 ^ 62) ≤ i ∧ i < 2 ^ 62 := by
  unfold smallI at h
  rw [Bool.and_eq_true] at h
  exact ⟨of_decide_eq_true h.1, of_decide_eq_true h.2⟩
theorem star1 (h : notStar e = true) {env : PySem.Env} : starEach [e] env = [(false, eval e env)] := star_cons h
theorem okI_rng1 (hg : Gl X "range") (hm : X.mg "range" = none) (hn : notStar e = true) (h : OkE X Φ c e) : OkId X Φ (.rng1 c) tg (.Call (.Name "range" p) [e] [] pos) := by
  intro ρ xs ρ' hv σ H O rp R q
  rw [evI] at hv
  obtain ⟨⟨r, ρ1⟩, h1, hv⟩ := Option.bind_eq_some_iff.mp hv
  simp only at hv
  split at hv
  · rename_i j
    obtain ⟨ys, h3, e2⟩ := Option.map_eq_some_iff.mp hv
    cases e2
    unfold rangeD at h3
    split at h3
    · rename_i hs
      cases h3
      refine of_pi (pi_range1 hg hm (pa_cons pe_wp pa_nil (star1 hn)) (star1 hn)) ?_
      refine h ρ _ _ h1 σ H O rp _ fun v H1 O1 n dq => ?_
      cases dq
      obtain ⟨b1, b2⟩ := smallI_ok hs.2
      refine ⟨j, rfl, b1, b2, q _ H1 O1 n ?_⟩
      have := src_rng (K := X.K) (H := H1) (O := O1) 0 j
      rw [Int.sub_zero] at this
      exact this
    · cases h3
  · cases hv
theorem okI_rng2 (hg : Gl X "range") (hm : X.mg "range" = none) (hn : notStar e = true) (hn2 : notStar e2 = true) (h : OkE X Φ c e) (h2 : OkE X Φ d e2) : OkId X Φ (.rng2 c d) tg (.Call (.Name "range" p) [e, e2] [] pos) := by
  intro ρ xs ρ' hv σ H O rp R q
  rw [evI] at hv
  obtain ⟨⟨r, ρ1⟩, h1, hv⟩ := Option.bind_eq_some_iff.mp hv
  obtain ⟨⟨r2, ρ2⟩, h3, hv⟩ := Option.bind_eq_some_iff.mp hv
  simp only at hv
  split at hv
  · rename_i i j
    obtain ⟨ys, h4, e2⟩ := Option.map_eq_some_iff.mp hv
    cases e2
    unfold rangeD at h4
    split at h4
    · rename_i hs
      cases h4
      have s2 : ∀ env, starEach [e, e2] env = [(false, eval e env), (false, eval e2 env)] := fun env => by rw [star_cons hn, star1 hn2]
      refine of_pi (pi_range2 hg hm (pa_cons pe_wp (pa_cons pe_wp pa_nil (star1 hn2)) (star_cons hn)) (s2 _) (star1 hn2)) ?_
      refine h ρ _ ρ1 h1 σ H O rp _ fun v H1 O1 n1 d1 => ?_
      refine h2 ρ1 _ _ h3 σ H1 O1 n1.rp _ fun u H2 O2 n2 d2 => ?_
      cases d1
      cases d2
      obtain ⟨b1, b2⟩ := smallI_ok hs.1
      obtain ⟨b3, b4⟩ := smallI_ok hs.2
      exact ⟨_, _, rfl, ⟨b1, b2, b3, b4⟩, q _ H2 O2 (n1.trans rp n2) (src_rng _ _)⟩
    · cases h4
  · cases hv
theorem okI_rev (hg : Gl X "reversed") (hm : X.mg "reversed" = none) (hn : notStar e = true) (h : OkE X Φ c e) : OkId X Φ (.rev c) tg (.Call (.Name "reversed" p) [e] [] pos) := by
  intro ρ xs ρ' hv σ H O rp R q
  rw [evI] at hv
  obtain ⟨⟨r, ρ1⟩, h1, hv⟩ := Option.bind_eq_some_iff.mp hv
  obtain ⟨x, h2, hv⟩ := Option.bind_eq_some_iff.mp hv
  simp only at hv
  split at hv
  · rename_i zs
    cases hv
    refine of_pi (pi_reversed hg hm (pa_cons pe_wp pa_nil (star1 hn)) (star1 hn)) (h.data h1 h2 rp fun v H1 O1 n dq => ?_)
    cases dq with
    | lst ha no dd => exact ⟨_, _, rfl, SqL.of ha, q _ H1 O1 n (src_rev n.rp.dom ha no dd)⟩
  · cases hv
theorem okI_enum {elts : List Expr} {kk : Nat} {tpos : Pos} (hg : Gl X "enumerate") (hm : X.mg "enumerate" = none) (hn : notStar e = true) (h : OkE X Φ c e) : OkI X Φ true (.enum c) (.Tuple elts kk tpos) (.Call (.Name "enumerate" p) [e] [] pos) := by
  intro ρ xs ρ' hv σ H O rp R q
  rw [evI] at hv
  obtain ⟨⟨r, ρ1⟩, h1, hv⟩ := Option.bind_eq_some_iff.mp hv
  obtain ⟨x, h2, hv⟩ := Option.bind_eq_some_iff.mp hv
  simp only at hv
  split at hv
  · rename_i zs
    cases hv
    refine of_pi (pi_enum hg hm (pa_cons pe_wp pa_nil (star1 hn)) (star1 hn)) (h.data h1 h2 rp fun v H1 O1 n dq => ?_)
    cases dq with
    | lst ha no dd => exact ⟨_, _, rfl, SqL.of ha, q _ H1 O1 n (src_enum n.rp.dom ha no dd)⟩
  · cases hv
theorem okI_zip {elts : List Expr} {kk : Nat} {tpos : Pos} (hg : Gl X "zip") (hm : X.mg "zip" = none) (hn : notStar e = true) (hn2 : notStar e2 = true) (h : OkE X Φ c e) (hd : OkE X Φ d e2) : OkI X Φ true (.zip c d) (.Tuple elts kk tpos) (.Call (.Name "zip" p) [e, e2] [] pos) := by
  intro ρ xs ρ' hv σ H O rp R q
  rw [evI] at hv
  obtain ⟨⟨r, ρ1⟩, h1, hv⟩ := Option.bind_eq_some_iff.mp hv
  obtain ⟨⟨r2, ρ2⟩, h3, hv⟩ := Option.bind_eq_some_iff.mp hv
  obtain ⟨x, h4, hv⟩ := Option.bind_eq_some_iff.mp hv
  obtain ⟨y, h5, hv⟩ := Option.bind_eq_some_iff.mp hv
  simp only at hv
  split at hv
  · rename_i zs ws
    cases hv
    have hpl : ∀ {env : PySem.Env} {pos : Pos}, (backTo pos (starEach [e2] env)).any (·.1) = false := star_plain (by rw [List.all_cons, hn2]; rfl)
    refine of_pi (pi_zip hg hm (pa_cons pe_wp (pa_cons pe_wp pa_nil (star1 hn2)) (star_cons hn)) (star_cons hn) hpl) ?_
    refine h.data h1 h4 rp fun v H1 O1 n1 d1 => ?_
    refine hd.data h3 h5 n1.rp fun u H2 O2 n2 d2 => ?_
    have d1' := Dq.ext n1.rp.dom (n2.ext n1.rp) d1
    cases d1' with
    | lst ha no dd =>
      cases d2 with
      | lst hb nob dd2 => exact ⟨_, _, _, _, rfl, SqL.of ha, SqL.of hb, q _ H2 O2 (n1.trans rp n2) (src_zip n2.rp.dom ha no dd hb nob dd2)⟩
  · cases hv
theorem rangeL_ok {i j : Int} {r : R} (h : rangeL i j = some r) : RgOk i j ∧ r = .l (rngL i j) := by
  unfold rangeL at h
  split at h
  · rename_i c
    cases h
    obtain ⟨a1, a2⟩ := smallI_ok c.1
    obtain ⟨b1, b2⟩ := smallI_ok c.2.1
    exact ⟨⟨a1, a2, b1, b2, Nat.le_trans c.2.2 (by decide)⟩, rfl⟩
  · cases h
theorem dqA_rng {K : PySem.W.Frag} {H : Hp} {O : List Addr} (i j : Int) : DqA K H O (rngL i j) (rgV i j) := by
  unfold rngL rgV
  generalize List.range (j - i).toNat = l
  induction l with
  | nil => exact .nil
  | cons k l ih => exact .cons (.int _) ih
theorem okE_lrg1 {p2 pos2 : Pos} (hc : X.calm = true) (hg : Gl X "list") (hm : X.mg "list" = none) (hg2 : Gl X "range") (hm2 : X.mg "range" = none) (hn : notStar e = true) (h : OkE X Φ c e) :
    OkE X Φ (.lrg1 c) (.Call (.Name "list" p) [.Call (.Name "range" p2) [e] [] pos2] [] pos) := by
  intro ρ r ρ' hv σ H O rp Q q
  rw [ev] at hv
  obtain ⟨⟨r1, ρ1⟩, h1, hv⟩ := Option.bind_eq_some_iff.mp hv
  simp only at hv
  split at hv
  · rename_i j
    obtain ⟨r2, h2, e2⟩ := Option.map_eq_some_iff.mp hv
    cases e2
    obtain ⟨ok, rfl⟩ := rangeL_ok h2
    refine of_pe (pe_listRg hc hg hm (prg_1 hg2 hm2 pe_wp (star_cons hn)) (star_cons rfl)) ?_
    refine h ρ _ _ h1 σ H O rp _ fun v H1 O1 n hr => ?_
    cases hr
    refine ⟨j, rfl, ok, ?_⟩
    exact n.made rp (mk_lst n.rp.dom (dqA_rng 0 j) fun Q q => q) q
  · cases hv
theorem okE_lrg2 {p2 pos2 : Pos} (hc : X.calm = true) (hg : Gl X "list") (hm : X.mg "list" = none) (hg2 : Gl X "range") (hm2 : X.mg "range" = none) (hn : notStar e = true) (hn2 : notStar e2 = true) (h : OkE X Φ c e) (h2 : OkE X Φ d e2) :
    OkE X Φ (.lrg2 c d) (.Call (.Name "list" p) [.Call (.Name "range" p2) [e, e2] [] pos2] [] pos) := by
  intro ρ r ρ' hv σ H O rp Q q
  rw [ev] at hv
  obtain ⟨⟨r1, ρ1⟩, h1, hv⟩ := Option.bind_eq_some_iff.mp hv
  obtain ⟨⟨r2, ρ2⟩, h3, hv⟩ := Option.bind_eq_some_iff.mp hv
  simp only at hv
  split at hv
  · obtain ⟨r3, h4, e4⟩ := Option.map_eq_some_iff.mp hv
    cases e4
    obtain ⟨ok, rfl⟩ := rangeL_ok h4
    refine of_pe (pe_listRg hc hg hm (prg_2 hg2 hm2 pe_wp pe_wp (star_cons hn) (star_cons hn2) (star_plain (by rw [List.all_cons, hn2]; rfl))) (star_cons rfl)) ?_
    refine h ρ _ _ h1 σ H O rp _ fun v H1 O1 n1 hr1 => ?_
    refine h2 _ _ _ h3 σ H1 O1 n1.rp _ fun u H2 O2 n2 hr2 => ?_
    cases hr1
    cases hr2
    refine ⟨_, _, rfl, rfl, ok, ?_⟩
    have n := n1.trans rp n2
    exact n.made rp (mk_lst n.rp.dom (dqA_rng _ _) fun Q q => q) q
  · cases hv
end
end DI

/-! DI12: comprehensions. -/
namespace DI
open PySem L2
theorem wipeR_len (ρ : Rho) : ∀ vs : List Nat, (wipeR ρ vs).length = ρ.length
  | [] => rfl
  | v :: vs => by rw [wipeR, List.length_set, wipeR_len ρ vs]
theorem gt_wipe (ρ : Rho) (i : Nat) : ∀ vs : List Nat, gt (wipeR ρ vs) i = if i ∈ vs then none else gt ρ i
  | [] => by rw [wipeR, if_neg (by simp)]
  | v :: vs => by
    rw [wipeR, gt_set, gt_wipe ρ i vs, wipeR_len]
    by_cases e : v = i
    · subst e
      rw [if_pos (List.mem_cons_self)]
      by_cases c : v < ρ.length
      · rw [if_pos ⟨rfl, c⟩]
      · rw [if_neg fun z => c z.2]
        split
        · rfl
        · cases g : gt ρ v with
          | none => rfl
          | some r => exact (c (gt_lt g)).elim
    · rw [if_neg fun z => e z.1]
      by_cases m : i ∈ vs
      · rw [if_pos m, if_pos (List.mem_cons_of_mem _ m)]
      · rw [if_neg m, if_neg fun z => (List.mem_cons.mp z).elim (fun z => e z.symm) m]
theorem gt_restore (ρ0 ρ : Rho) (hl : ρ.length = ρ0.length) (i : Nat) : ∀ vs : List Nat, gt (restoreR ρ0 ρ vs) i = (if i ∈ vs then gt ρ0 i else gt ρ i) ∧ (restoreR ρ0 ρ vs).length = ρ.length
  | [] => ⟨by rw [restoreR, if_neg (by simp)], rfl⟩
  | v :: vs => by
    obtain ⟨ih, il⟩ := gt_restore ρ0 ρ hl i vs
    refine ⟨?_, by rw [restoreR, List.length_set, il]⟩
    rw [restoreR, gt_set, ih, il]
    by_cases e : v = i
    · subst e
      rw [if_pos (List.mem_cons_self)]
      by_cases c : v < ρ.length
      · rw [if_pos ⟨rfl, c⟩]
      · rw [if_neg fun z => c z.2]
        split
        · rfl
        · cases g : gt ρ v with
          | none =>
            cases g0 : gt ρ0 v with
            | none => rfl
            | some r => exact (c (by rw [hl]; exact gt_lt g0)).elim
          | some r => exact (c (gt_lt g)).elim
    · rw [if_neg fun z => e z.1]
      by_cases m : i ∈ vs
      · rw [if_pos m, if_pos (List.mem_cons_of_mem _ m)]
      · rw [if_neg m, if_neg fun z => (List.mem_cons.mp z).elim (fun z => e z.symm) m]
theorem wipe_in {σ : L2.St} {i : Nat} : ∀ {vs : List Nat}, i ∈ vs → (wipe σ vs)[i]? = if i < σ.length then some none else none
  | [], h => by cases h
  | v :: vs, h => by
    show ((wipe σ vs).set v none)[i]? = _
    rw [List.getElem?_set, wipe_length]
    by_cases e : v = i
    · rw [if_pos e, e]
    · rw [if_neg e]
      exact wipe_in ((List.mem_cons.mp h).elim (fun z => (e z.symm).elim) id)
theorem wipe_eq {σ σ2 : L2.St} {vs : List Nat} (hl : σ2.length = σ.length) (h : ∀ i, i ∉ vs → σ2[i]? = σ[i]?) : wipe σ2 vs = wipe σ vs := by
  apply List.ext_getElem?
  intro i
  by_cases m : i ∈ vs
  · rw [wipe_in m, wipe_in m, hl]
  · rw [wipe_out m, wipe_out m, h i m]
theorem wipe_wipe {σ : L2.St} {vs ws : List Nat} (h : ∀ i ∈ ws, i ∈ vs) : wipe (wipe σ vs) ws = wipe σ vs := by
  apply List.ext_getElem?
  intro i
  by_cases m : i ∈ ws
  · rw [wipe_in m, wipe_in (h i m), wipe_length]
  · rw [wipe_out m]
section
variable {K : PySem.W.Frag} {H H' H'' H0 H1 H2 H3 H4 : Hp} {O O' O1 O2 O4 : List Addr} {ρ ρ' ρ1 ρw ρb ρd ρE : Rho} {σ σ2 σw : L2.St} {vs L : List Nat}
theorem Rp.wipe (rp : Rp K H O ρ σ) (vs : List Nat) : Rp K H O (wipeR ρ vs) (L2.wipe σ vs) where
  len := by rw [wipeR_len, wipe_length]; exact rp.len
  slot := fun i r h => by
    rw [gt_wipe] at h
    split at h
    · cases h
    · rename_i m
      rw [wipe_out m]
      exact rp.slot i r h
  apart := fun i j xs ys a h1 h2 e1 e2 => by
    rw [gt_wipe] at h1 h2
    split at h1
    · cases h1
    · split at h2
      · cases h2
      · rename_i m1 m2
        rw [wipe_out m1] at e1
        rw [wipe_out m2] at e2
        exact rp.apart i j xs ys a h1 h2 e1 e2
  dom := rp.dom
theorem own_wipe {a : Addr} (h : Own (wipeR ρ vs) (wipe σ vs) a) : Own ρ σ a := by
  obtain ⟨i, xs, h1, h2⟩ := h
  rw [gt_wipe] at h1
  split at h1
  · cases h1
  · rename_i m
    rw [wipe_out m] at h2
    exact ⟨i, xs, h1, h2⟩
/-- a turn of a block: a store, then expressions; the block's names forgotten -/
theorem blk_step (rpw : Rp K H1 O1 ρw σw) (n : Nx K H1 O1 ρw σw H' O' ρ') (st0 : Stp H' O' (fun _ => False) H'' O') (ow0 : Ow H'' O') (g : Gx K [] L H'' O' ρ' σw H2 O2 ρb σ2) (hL : ∀ i ∈ L, i ∈ vs) (hw : wipe σ2 vs = σw) (m : Nx K H2 O2 ρb σ2 H4 O4 ρd) :
    Nx K H1 O1 ρw σw H4 O4 (wipeR ρd vs) ∧ ∀ D u, D ∈ O' → H' D = some u → ¬ Own ρ' σw D → D ∈ O4 ∧ H4 D = some u ∧ ¬ Own (wipeR ρd vs) σw D := by
  have ob : ∀ a, Own ρb σ2 a → Own ρ' σw a ∨ H' a = none := fun a h => (g.own a h).imp id fun z => st0.base z
  have g0 : Stp H' O' (Own ρ' σw) H2 O2 := (st0.trans g.st (fun _ h => h.elim) n.rp.dom).wide fun _ h => h.elim
  have gm : Stp H' O' (Own ρ' σw) H4 O4 := g0.trans m.st ob n.rp.dom
  have rp4 : Rp K H4 O4 (wipeR ρd vs) σw := by
    have := m.rp.wipe vs
    rw [hw] at this
    exact this
  have lsx : ∀ i xs, gt (wipeR ρd vs) i = some (.l xs) → ∃ ys, gt ρ' i = some (.l ys) := fun i xs h => by
    rw [gt_wipe] at h
    split at h
    · cases h
    · rename_i mi
      obtain ⟨ys, h⟩ := m.ls i xs h
      rw [(g.out i fun z => mi (hL i z)).2] at h
      exact ⟨ys, h⟩
  refine ⟨⟨n.st.trans gm (fun a h => .inl (n.own a h)) rpw.dom, rp4, fun i xs h => ?_⟩, fun D u hD hu hn => ⟨gm.pend D hD hn, gm.keep D u hu hn, fun ⟨i, xs, h1, h2⟩ => ?_⟩⟩
  · obtain ⟨ys, h⟩ := lsx i xs h
    exact n.ls i ys h
  · obtain ⟨ys, h⟩ := lsx i xs h1
    exact hn ⟨i, ys, h, h2⟩
theorem blk_ext (rp' : Rp K H' O' ρ' σw) (st0 : Stp H' O' (fun _ => False) H'' O') (g : Gx K [] L H'' O' ρ' σw H2 O2 ρb σ2) (m : Nx K H2 O2 ρb σ2 H4 O4 ρd) : Ext H' O' H4 O4 := by
  have ob : ∀ a, Own ρb σ2 a → Own ρ' σw a ∨ H' a = none := fun a h => (g.own a h).imp id fun z => st0.base z
  have g0 : Stp H' O' (Own ρ' σw) H2 O2 := (st0.trans g.st (fun _ h => h.elim) rp'.dom).wide fun _ h => h.elim
  exact (g0.trans m.st ob rp'.dom).ext fun a h => rp'.own_mem h
theorem Ext.comp (x : Ext H O H1 O1) (y : Ext H1 O1 H2 O2) : Ext H O H2 O2 := ⟨fun a o h n => y.keep a o (x.keep a o h n) (x.out a o h n), fun a o h n => y.out a o (x.keep a o h n) (x.out a o h n)⟩
/-- behind a block -/
theorem blk_end (rp : Rp K H O ρ σ) (n1 : Nx K H O ρ σ H1 O1 ρ1) (n : Nx K H1 O1 (wipeR ρ1 vs) (wipe σ vs) H' O' ρE) : Nx K H O ρ σ H' O' (restoreR ρ1 ρE vs) := by
  have hl : ρE.length = ρ1.length := by rw [n.rp.len, wipe_length, n1.rp.len]
  have gr := fun i => gt_restore ρ1 ρE hl i vs
  have ow : ∀ a, Own (wipeR ρ1 vs) (wipe σ vs) a → Own ρ1 σ a := fun a h => own_wipe h
  have nl : ∀ i xs, i ∉ vs → gt ρE i = some (.l xs) → ∃ ys, gt ρ1 i = some (.l ys) := fun i xs hi h => by
    obtain ⟨ys, h⟩ := n.ls i xs h
    rw [gt_wipe, if_neg hi] at h
    exact ⟨ys, h⟩
  refine ⟨n1.st.trans n.st (fun a h => .inl (n1.own a (ow a h))) rp.dom, ⟨?_, fun i r h => ?_, fun i j xs ys a h1 h2 e1 e2 => ?_, n.rp.dom⟩, fun i xs h => ?_⟩
  · rw [(gr 0).2, hl, n1.rp.len]
  · rw [(gr i).1] at h
    split at h
    · rename_i m
      refine n1.rp.slot_step n.st (fun a z => n1.rp.own_mem (ow a z)) h fun a ha ⟨xs, e⟩ ⟨j, ys, h1, h2⟩ => ?_
      subst e
      rw [gt_wipe] at h1
      split at h1
      · cases h1
      · rename_i mj
        rw [wipe_out mj] at h2
        have := n1.rp.apart i j _ _ a h h1 ha h2
        subst this
        exact mj m
    · rename_i m
      obtain ⟨v, h1, h2⟩ := n.rp.slot i r h
      rw [wipe_out m] at h1
      exact ⟨v, h1, h2⟩
  · rw [(gr i).1] at h1
    rw [(gr j).1] at h2
    split at h1
    · split at h2
      · exact n1.rp.apart i j xs ys a h1 h2 e1 e2
      · rename_i m2
        obtain ⟨zs, h2⟩ := nl j ys m2 h2
        exact n1.rp.apart i j xs zs a h1 h2 e1 e2
    · rename_i m1
      obtain ⟨zs, h1⟩ := nl i xs m1 h1
      split at h2
      · exact n1.rp.apart i j zs ys a h1 h2 e1 e2
      · rename_i m2
        obtain ⟨ws, h2⟩ := nl j ys m2 h2
        exact n1.rp.apart i j zs ws a h1 h2 e1 e2
  · rw [(gr i).1] at h
    split at h
    · exact n1.ls i xs h
    · rename_i m
      obtain ⟨ys, h⟩ := nl i xs m h
      exact n1.ls i ys h
end
/-! ### tests of a clause -/
section
variable (X : Cx) (Φ : Phi)
def twts (ifs : List Expr) : TT := fun σ H Q => ∀ (pins : List (Addr × Obj)) (s : Shared), Inv X pins σ H s →
  wpAny (model X.prog X.w) X.A (forIn ifs true fun c r => if r = true then do let ok ← isTrue c X.env (eval c X.env); pure (ForInStep.yield ok) else pure (ForInStep.yield r)) (TP X pins σ Q) X.xe s
def OkTs (cs : CEs) (es : List Expr) : Prop := ∀ (ρ : Rho) (b : Bool) (ρ' : Rho), evTs Φ cs ρ = some (b, ρ') → ∀ (σ : L2.St) (H : Hp) (O : List Addr), Rp X.K H O ρ σ → ∀ Q : Bool → Hp → Prop,
  (∀ H' O', Nx X.K H O ρ σ H' O' ρ' → Q b H') → twts X es σ H Q
end
section
variable {X : Cx} {Φ : Phi} {c : CE} {e : Expr}
theorem pts_wp {ifs : List Expr} : PTs X ifs (twts X ifs) := ⟨fun pins s _ _ _ I h => h pins s I⟩
theorem of_pts {ifs : List Expr} {t : TT} {σ : L2.St} {H : Hp} {Q : Bool → Hp → Prop} (h : PTs X ifs t) (q : t σ H Q) : twts X ifs σ H Q := fun pins s I => h.run pins s σ H Q I q
theorem okTs_nil : OkTs X Φ .nil [] := by
  intro ρ b ρ' hv σ H O rp Q q
  rw [evTs] at hv
  cases hv
  exact of_pts pts_nil (q H O (Nx.refl rp))
theorem okTs_one (h : OkT X Φ c e) : OkTs X Φ (.cons c .nil) [e] := by
  intro ρ b ρ' hv σ H O rp Q q
  rw [evTs] at hv
  obtain ⟨⟨k, ρ1⟩, h1, hv⟩ := Option.bind_eq_some_iff.mp hv
  refine of_pts (pts_one pt_wp) (h ρ k ρ1 h1 σ H O rp _ fun H1 O1 n => ?_)
  have e : b = k ∧ ρ' = ρ1 := by
    cases k with
    | true =>
      rw [if_pos rfl, evTs] at hv
      cases hv
      exact ⟨rfl, rfl⟩
    | false =>
      rw [if_neg Bool.false_ne_true] at hv
      cases hv
      exact ⟨rfl, rfl⟩
  obtain ⟨rfl, rfl⟩ := e
  exact q H1 O1 n
end
/-! ### one clause -/
section
variable (X : Cx) (scope : Scope)
def bwg (tg : Expr) : TG := fun v σ H Q => ∀ (s : Shared) (H0 : Hp) (C : Addr) (cl : List (Str × Addr)) (fp : List Addr), twg (X.blk s H0 scope (compEnvC scope cl C X.env) fp) tg v σ H Q
def bwts (ifs : List Expr) : TT := fun σ H Q => ∀ (s : Shared) (H0 : Hp) (C : Addr) (cl : List (Str × Addr)) (fp : List Addr), twts (X.blk s H0 scope (compEnvC scope cl C X.env) fp) ifs σ H Q
def bwp (e : Expr) : TE := fun σ H Q => ∀ (s : Shared) (H0 : Hp) (C : Addr) (cl : List (Str × Addr)) (fp : List Addr), twp (X.blk s H0 scope (compEnvC scope cl C X.env) fp) e σ H Q
def bwi (tg e : Expr) : TI := fun σ H R => ∀ (s : Shared) (H0 : Hp) (C : Addr) (cl : List (Str × Addr)) (fp : List Addr), twi (X.blk s H0 scope (compEnvC scope cl C X.env) fp) tg e σ H R
/-- in every block of that scope -/
def InB (P : Cx → Prop) : Prop := ∀ (s : Shared) (H0 : Hp) (C : Addr) (cl : List (Str × Addr)) (fp : List Addr), P (X.blk s H0 scope (compEnvC scope cl C X.env) fp)
end
theorem drop_cons {α : Type} {xs : List α} {i : Nat} {x : α} (h : xs[i]? = some x) : xs.drop i = x :: xs.drop (i + 1) := by
  have hi := (List.getElem?_eq_some_iff.mp h).1
  rw [List.drop_eq_getElem_cons hi]
  congr 1
  exact (List.getElem?_eq_some_iff.mp h).2
section
variable {X : Cx} {Φ : Phi} {elt tg iter : Expr} {ifs : List Expr} {scope : Scope} {celt : CE} {t : CT} {it : CI} {cifs : CEs} {vs : List Nat} {pr : Bool}
theorem lc_ok (hi : OkI X Φ pr it tg iter) (hg : InB X scope fun Y => OkG Y pr [] t tg) (ht : InB X scope fun Y => OkTs Y Φ cifs ifs) (he : InB X scope fun Y => OkE Y Φ celt elt) (hs : ∀ i ∈ t.sl, i ∈ vs)
    {ρ : Rho} {r : R} {ρ' : Rho} (hv : ev Φ (.lc vs celt t it cifs) ρ = some (r, ρ')) {σ : L2.St} {H : Hp} {O : List Addr} (rp : Rp X.K H O ρ σ) {Q : VK}
    (q : ∀ v H' O', Nx X.K H O ρ σ H' O' ρ' → RsT X.K H H' O' r v → Q v H') : tLc (twi X tg iter) (bwg X scope tg) (bwts X scope ifs) (bwp X scope elt) vs σ H Q := by
  rw [ev] at hv
  obtain ⟨⟨xs, ρ1⟩, h1, hv⟩ := Option.bind_eq_some_iff.mp hv
  obtain ⟨⟨ys, ρE⟩, h2, hv⟩ := Option.bind_eq_some_iff.mp hv
  simp only at hv h2
  split at hv
  rotate_left
  · cases hv
  rename_i hlen
  cases hv
  refine hi ρ xs ρ1 h1 σ H O rp _ fun J H1 O1 n1 src => ?_
  intro D hD
  obtain ⟨G, Y, w, hG, hY⟩ := src
  have rpw := n1.rp.wipe vs
  have hDo : ∀ {ρ2 : Rho} {H2 : Hp} {O2 : List Addr}, Nx X.K H1 O1 (wipeR ρ1 vs) (wipe σ vs) H2 O2 ρ2 → ¬ Own ρ2 (wipe σ vs) D := fun n z => rpw.own_dom (n.own D z) hD
  refine lc_it w (fun i H' => ∃ ρ2 O2 acc accv rest, lcL (fun x ρ' => (bindT [] t x ρ').bind fun ρ1 => (evTs Φ cifs ρ1).bind fun q =>
        if q.1 = true then (ev Φ celt q.2).bind fun s => (toD s.1).map fun y => (some y, wipeR s.2 vs) else some (none, wipeR q.2 vs)) (xs.drop i) ρ2 = some (rest, ρE) ∧ ys = acc ++ rest ∧
      Nx X.K H1 O1 (wipeR ρ1 vs) (wipe σ vs) H' O2 ρ2 ∧ D ∈ O2 ∧ H' D = some (.lst accv) ∧ DqA X.K H' O2 acc accv) ?_ ?_ ?_ ?_
  · refine ⟨wipeR ρ1 vs, D :: O1, [], [], ys, by rw [List.drop_zero]; exact h2, rfl, ?_, List.mem_cons_self, upd_same, .nil⟩
    have st : Stp H1 O1 (fun _ => False) (L2.upd H1 D (.lst [])) (D :: O1) := Stp.newO hD
    exact Nx.plain rpw st ((rpw.dom.new hD).cons upd_same rfl)
  · intro i H' _ ⟨ρ2, O2, acc, accv, rest, _, _, n, _⟩
    exact hG H' O2 (n.ext rpw)
  · intro i v H2 H3 hi ⟨ρ2, O2, acc, accv, rest, e1, e2, n, d1, d2, d3⟩ hy
    obtain ⟨x, hx, st0, ow0, yd⟩ := hY i H2 O2 v H3 hi (n.ext rpw) n.rp.dom hy
    rw [drop_cons hx, lcL] at e1
    obtain ⟨⟨oy, ρ3⟩, f1, e1⟩ := Option.bind_eq_some_iff.mp e1
    obtain ⟨⟨rest', ρE'⟩, f2, e3⟩ := Option.map_eq_some_iff.mp e1
    simp only at f2 e3
    obtain ⟨ρb, g1, f1⟩ := Option.bind_eq_some_iff.mp f1
    obtain ⟨⟨b, ρc⟩, g2, f1⟩ := Option.bind_eq_some_iff.mp f1
    have rp3 : Rp X.K H3 O2 ρ2 (wipe σ vs) := n.rp.step st0 (fun _ h => h.elim) ow0
    intro s H0 C cl fp
    refine hg s H0 C cl fp ρ2 ρb x g1 (wipe σ vs) H3 O2 v rp3 yd _ fun σ2 H4 O4 gx => ?_
    have hw : wipe σ2 vs = wipe σ vs := (wipe_eq gx.sl fun i hi => (gx.out i fun z => hi (hs i z)).1).trans (wipe_wipe fun _ h => h)
    refine ⟨hw, fun s H0 C cl fp => ?_⟩
    refine ht s H0 C cl fp ρb b ρc g2 σ2 H4 O4 gx.rp _ fun H5 O5 n5 => ?_
    cases b with
    | false =>
      rw [if_neg Bool.false_ne_true] at f1
      cases f1
      cases e3
      rw [if_neg Bool.false_ne_true]
      obtain ⟨m1, m2⟩ := blk_step rpw n st0 ow0 gx hs hw n5
      obtain ⟨p1, p2, _⟩ := m2 D _ d1 d2 (hDo n)
      exact ⟨_, O5, acc, accv, _, f2, e2, m1, p1, p2, DqA.ext n.rp.dom (blk_ext n.rp st0 gx n5) d3⟩
    | true =>
      rw [if_pos rfl] at f1
      obtain ⟨⟨re, ρd⟩, g3, f1⟩ := Option.bind_eq_some_iff.mp f1
      obtain ⟨y, g4, f1⟩ := Option.map_eq_some_iff.mp f1
      cases f1
      cases e3
      rw [if_pos rfl]
      intro s H0 C cl fp
      refine (he s H0 C cl fp).data g3 g4 n5.rp fun u H6 O6 n6 dy => ?_
      have n56 := n5.trans gx.rp n6
      obtain ⟨m1, m2⟩ := blk_step rpw n st0 ow0 gx hs hw n56
      obtain ⟨p1, p2, p3⟩ := m2 D _ d1 d2 (hDo n)
      have dA := DqA.ext n.rp.dom (blk_ext n.rp st0 gx n56) d3
      have hsz : accv.length < sizeLine := by
        have hl := congrArg List.length e2
        rw [List.length_append] at hl
        simp only [List.length_cons] at hl
        have := d3.length
        have := lim_line (n := ys.length) hlen
        omega
      refine ⟨accv, p2, hsz, ?_⟩
      have st : Stp H6 O6 (fun a => a = D) (L2.upd H6 D (.lst (accv ++ [u]))) O6 := Stp.wr
      have ex := st.ext (S := fun a => a = D) fun a z => by rw [z]; exact p1
      have no : ¬ Own (wipeR ρd vs) (wipe σ vs) D := hDo m1
      refine ⟨_, O6, acc ++ [y], accv ++ [u], _, f2, by rw [e2, List.append_assoc]; rfl, ?_, p1, upd_same, ?_⟩
      · refine ⟨m1.st.trans st (fun a z => .inr (by rw [z]; exact hD)) rpw.dom, m1.rp.step st (fun a z => by rw [z]; exact ⟨p1, no⟩) (m1.rp.dom.upd rfl), m1.ls⟩
      · exact DqA.append (DqA.ext m1.rp.dom ex dA) (.cons (Dq.ext m1.rp.dom ex dy) .nil)
  · intro H2 ⟨ρ2, O2, acc, accv, rest, e1, e2, n, d1, d2, d3⟩
    rw [List.drop_length, lcL] at e1
    cases e1
    rw [List.append_nil] at e2
    subst e2
    exact q _ H2 O2 (blk_end rp n1 n) ⟨D, accv, rfl, d1, n1.base hD, d2, d3⟩
theorem notSet_id {e : Expr} {env : PySem.Env} {x : Value} (h : (match e with | .Set _ _ _ => false | _ => true) = true) : foldedSetIterable e env x = pure x := by
  cases e <;> first | rfl | cases h
def notSet : Expr → Bool
  | .Set _ _ _ => false
  | _ => true
theorem okE_lc {own : List (Str × Nat)} {pos : Pos} (hc : X.calm = true) (hN : X.N.Nodup) (ok : BlkOk X.N X.env.scope scope own) (hvs : own.map (·.2) = vs) (hset : notSet iter = true)
    (hi : OkI X Φ pr it tg iter) (hg : InB X scope fun Y => OkG Y pr [] t tg) (ht : InB X scope fun Y => OkTs Y Φ cifs ifs) (he : InB X scope fun Y => OkE Y Φ celt elt) (hs : ∀ i ∈ t.sl, i ∈ vs) :
    OkE X Φ (.lc vs celt t it cifs) (.ListComp elt [⟨tg, iter, ifs, 0⟩] scope pos) := by
  intro ρ r ρ' hv σ H O rp Q q
  subst hvs
  refine of_pe (pe_lc (own := own) (wi := twi X tg iter) (g := bwg X scope tg) (tt := bwts X scope ifs) (te := bwp X scope elt) hc hN pi_wp ok (fun s H0 C cl fp => ?_) (fun s H0 C cl fp => ?_) (fun s H0 C cl fp => ?_) (fun x => notSet_id hset)) (lc_ok hi hg ht he hs hv rp q)
  · exact ⟨fun pins s1 σ1 H1 v u Q1 I r h => h s H0 C cl fp pins s1 u I r⟩
  · exact ⟨fun pins s1 σ1 H1 Q1 I h => h s H0 C cl fp pins s1 I⟩
  · exact ⟨fun pins s1 σ1 H1 Q1 I h => h s H0 C cl fp pins s1 I⟩
end
/-! ### two clauses -/
/-- the measure of a walk -/
theorem walk_W {J : It} {n : Nat} {G : Hp → Prop} {Y : Nat → Hp → V → Hp → Prop} (w : Walk J n G Y) (Pv : Nat → Hp → Prop) (B : V → Hp → (Hp → Prop) → Prop) {H0 : Hp} {Qd : Hp → Prop} (h0 : Pv 0 H0) (hG : ∀ i H, i ≤ n → Pv i H → G H)
    (hs : ∀ i x H H', i < n → Pv i H → Y i H x H' → B x H' (Pv (i + 1))) (hd : ∀ H, Pv n H → Qd H) :
    ∃ W : Nat → Nat → Hp → Prop, (∃ m, W 0 m H0) ∧ ∀ i m H, W i m H → (J.stop i H ∧ Qd H) ∨ (J.go i H ∧ ∃ N : Hp → Prop, (∀ H', N H' → ∃ m', m' < m ∧ W (i + 1) m' H') ∧ ∀ x H', J.yld i H x H' → B x H' N) := by
  refine ⟨fun i m H => i + m = n ∧ Pv i H, ⟨n, by omega, h0⟩, fun i m H ⟨e, p⟩ => ?_⟩
  have g := hG i H (by omega) p
  cases m with
  | zero =>
    have : i = n := by omega
    subst this
    exact .inl ⟨w.stops H g, hd H p⟩
  | succ m => exact .inr ⟨w.goes i H (by omega) g, Pv (i + 1), fun H' p' => ⟨m, Nat.lt_succ_self m, by omega, p'⟩, fun x H' hy => hs i x H H' (by omega) p (w.yields i H x H' (by omega) g hy)⟩
/-- within a block, the new list at D aside -/
structure Bz (K : PySem.W.Frag) (H1 : Hp) (O1 : List Addr) (ρw : Rho) (σw : L2.St) (D : Addr) (vs : List Nat) (H' : Hp) (O' : List Addr) (ρ' : Rho) (σ' : L2.St) : Prop where
  st : Stp H1 O1 (Own ρw σw) H' O'
  rp : Rp K H' O' ρ' σ'
  own : ∀ a, Own ρ' σ' a → Own ρw σw a ∨ H1 a = none
  nd : ¬ Own ρ' σ' D
  mem : D ∈ O'
  ls : ∀ i xs, i ∉ vs → gt ρ' i = some (.l xs) → ∃ ys, gt ρw i = some (.l ys)
section
variable {K : PySem.W.Frag} {H' H1 H2 : Hp} {O' O1 O2 : List Addr} {ρ' ρ2 ρw : Rho} {σ' σ2 σw : L2.St} {vs L : List Nat} {D : Addr}
theorem Bz.nx (rpw : Rp K H1 O1 ρw σw) (b : Bz K H1 O1 ρw σw D vs H' O' ρ' σ') (n : Nx K H' O' ρ' σ' H2 O2 ρ2) : Bz K H1 O1 ρw σw D vs H2 O2 ρ2 σ' where
  st := b.st.trans n.st b.own rpw.dom
  rp := n.rp
  own := fun a h => b.own a (n.own a h)
  nd := fun h => b.nd (n.own D h)
  mem := n.st.pend D b.mem b.nd
  ls := fun i xs hi h => by
    obtain ⟨ys, h⟩ := n.ls i xs h
    exact b.ls i ys hi h
theorem Bz.nxD (b : Bz K H1 O1 ρw σw D vs H' O' ρ' σ') (n : Nx K H' O' ρ' σ' H2 O2 ρ2) {u : HO} (h : H' D = some u) : H2 D = some u := n.st.keep D u h b.nd
theorem Bz.st0 (rpw : Rp K H1 O1 ρw σw) (b : Bz K H1 O1 ρw σw D vs H' O' ρ' σ') (s : Stp H' O' (fun _ => False) H2 O2) (ow : Ow H2 O2) : Bz K H1 O1 ρw σw D vs H2 O2 ρ' σ' where
  st := b.st.trans s (fun _ h => h.elim) rpw.dom
  rp := b.rp.step s (fun _ h => h.elim) ow
  own := b.own
  nd := b.nd
  mem := s.pend D b.mem fun h => h
  ls := b.ls
theorem Bz.gx (rpw : Rp K H1 O1 ρw σw) (b : Bz K H1 O1 ρw σw D vs H' O' ρ' σ') {u : HO} (hu : H' D = some u) (g : Gx K [] L H' O' ρ' σ' H2 O2 ρ2 σ2) (hL : ∀ i ∈ L, i ∈ vs) : Bz K H1 O1 ρw σw D vs H2 O2 ρ2 σ2 where
  st := b.st.trans g.st (fun _ h => h.elim) rpw.dom
  rp := g.rp
  own := fun a h => (g.own a h).elim (b.own a) fun z => .inr (b.st.base z)
  nd := fun h => (g.own D h).elim b.nd fun z => by rw [hu] at z; cases z
  mem := g.st.pend D b.mem fun h => h
  ls := fun i xs hi h => by
    rw [(g.out i fun z => hi (hL i z)).2] at h
    exact b.ls i xs hi h
theorem Bz.wipe (b : Bz K H1 O1 ρw σw D vs H' O' ρ' σ') (ws : List Nat) : Bz K H1 O1 ρw σw D vs H' O' (wipeR ρ' ws) (L2.wipe σ' ws) where
  st := b.st
  rp := b.rp.wipe ws
  own := fun a h => b.own a (own_wipe h)
  nd := fun h => b.nd (own_wipe h)
  mem := b.mem
  ls := fun i xs hi h => by
    rw [gt_wipe] at h
    split at h
    · cases h
    · exact b.ls i xs hi h
theorem Bz.ext (b : Bz K H1 O1 ρw σw D vs H' O' ρ' σ') (n : Nx K H' O' ρ' σ' H2 O2 ρ2) : Ext H' O' H2 O2 := n.ext b.rp
/-- the new list grows -/
theorem Bz.app (rpw : Rp K H1 O1 ρw σw) (hD : H1 D = none) (b : Bz K H1 O1 ρw σw D vs H' O' ρ' σ') {xs : List V} : Bz K H1 O1 ρw σw D vs (L2.upd H' D (.lst xs)) O' ρ' σ' where
  st := b.st.trans (Stp.wr (p := D)) (fun a z => .inr (by rw [z]; exact hD)) rpw.dom
  rp := b.rp.step (Stp.wr (p := D)) (fun a z => by rw [z]; exact ⟨b.mem, b.nd⟩) (b.rp.dom.upd rfl)
  own := b.own
  nd := b.nd
  mem := b.mem
  ls := b.ls
theorem Bz.appExt (b : Bz K H1 O1 ρw σw D vs H' O' ρ' σ') {xs : List V} : Ext H' O' (L2.upd H' D (.lst xs)) O' := (Stp.wr (p := D)).ext fun a z => by rw [z]; exact b.mem
/-- a turn is over -/
theorem Bz.over (b : Bz K H1 O1 ρw σw D vs H' O' ρ' σ') (hw : L2.wipe σ' vs = σw) : Nx K H1 O1 ρw σw H' O' (wipeR ρ' vs) where
  st := b.st
  rp := by
    have := b.rp.wipe vs
    rw [hw] at this
    exact this
  ls := fun i xs h => by
    rw [gt_wipe] at h
    split at h
    · cases h
    · rename_i m
      exact b.ls i xs m h
theorem Bz.of (n : Nx K H1 O1 ρw σw H' O' ρ') (rpw : Rp K H1 O1 ρw σw) (hD : H1 D = none) (hm : D ∈ O') : Bz K H1 O1 ρw σw D vs H' O' ρ' σw where
  st := n.st
  rp := n.rp
  own := fun a h => .inl (n.own a h)
  nd := fun h => rpw.own_dom (n.own D h) hD
  mem := hm
  ls := fun i xs _ h => n.ls i xs h
end
section
variable {X : Cx} {Φ : Phi} {elt tg iter tg1 iter1 : Expr} {ifs ifs1 : List Expr} {scope : Scope} {celt : CE} {t t1 : CT} {it it1 : CI} {cifs cifs1 : CEs} {vs vs1 : List Nat} {pr pr1 : Bool}
theorem lc2_ok (hi : OkI X Φ pr it tg iter) (hg : InB X scope fun Y => OkG Y pr [] t tg) (ht : InB X scope fun Y => OkTs Y Φ cifs ifs) (hi1 : InB X scope fun Y => OkI Y Φ pr1 it1 tg1 iter1) (hg1 : InB X scope fun Y => OkG Y pr1 [] t1 tg1) (ht1 : InB X scope fun Y => OkTs Y Φ cifs1 ifs1)
    (he : InB X scope fun Y => OkE Y Φ celt elt) (hs : ∀ i ∈ t.sl, i ∈ vs) (hs1 : ∀ i ∈ t1.sl, i ∈ vs1) (hv1 : ∀ i ∈ vs1, i ∈ vs)
    {ρ : Rho} {r : R} {ρ' : Rho} (hv : ev Φ (.lc2 vs vs1 celt t it cifs t1 it1 cifs1) ρ = some (r, ρ')) {σ : L2.St} {H : Hp} {O : List Addr} (rp : Rp X.K H O ρ σ) {Q : VK}
    (q : ∀ v H' O', Nx X.K H O ρ σ H' O' ρ' → RsT X.K H H' O' r v → Q v H') : tLc2 (twi X tg iter) (bwg X scope tg) (bwts X scope ifs) (bwi X scope tg1 iter1) (bwg X scope tg1) (bwts X scope ifs1) (bwp X scope elt) vs vs1 σ H Q := by
  rw [ev] at hv
  obtain ⟨⟨xs, ρ1⟩, h1, hv⟩ := Option.bind_eq_some_iff.mp hv
  obtain ⟨⟨ys, ρE⟩, h2, hv⟩ := Option.bind_eq_some_iff.mp hv
  simp only at hv h2
  split at hv
  rotate_left
  · cases hv
  rename_i hlen
  cases hv
  refine hi ρ xs ρ1 h1 σ H O rp _ fun J H1 O1 n1 src => ?_
  intro D hD
  obtain ⟨G, Y, w, hG, hY⟩ := src
  have rpw := n1.rp.wipe vs
  have hlim : ys.length ≤ sizeLine := lim_line hlen
  refine walk_W w (fun i H' => ∃ ρ2 O2 acc accv rest, lcC (fun x ρ' => (bindT [] t x ρ').bind fun ρ1 => (evTs Φ cifs ρ1).bind fun q =>
        if q.1 = true then (evI Φ it1 q.2).bind fun p2 => (lcL (fun x2 ρ2' => (bindT [] t1 x2 ρ2').bind fun ρ3 => (evTs Φ cifs1 ρ3).bind fun q2 =>
            if q2.1 = true then (ev Φ celt q2.2).bind fun s => (toD s.1).map fun y => (some y, wipeR s.2 vs1) else some (none, wipeR q2.2 vs1)) p2.1 (wipeR p2.2 vs1)).map fun r => (r.1, wipeR r.2 vs)
        else some ([], wipeR q.2 vs)) (xs.drop i) ρ2 = some (rest, ρE) ∧ ys = acc ++ rest ∧
      Nx X.K H1 O1 (wipeR ρ1 vs) (wipe σ vs) H' O2 ρ2 ∧ D ∈ O2 ∧ H' D = some (.lst accv) ∧ DqA X.K H' O2 acc accv) _ ?_ ?_ ?_ ?_
  · refine ⟨wipeR ρ1 vs, D :: O1, [], [], ys, by rw [List.drop_zero]; exact h2, rfl, ?_, List.mem_cons_self, upd_same, .nil⟩
    have st : Stp H1 O1 (fun _ => False) (L2.upd H1 D (.lst [])) (D :: O1) := Stp.newO hD
    exact Nx.plain rpw st ((rpw.dom.new hD).cons upd_same rfl)
  · intro i H' _ ⟨ρ2, O2, acc, accv, rest, _, _, n, _⟩
    exact hG H' O2 (n.ext rpw)
  · intro i v H2 H3 hi ⟨ρ2, O2, acc, accv, rest, e1, e2, n, d1, d2, d3⟩ hy
    obtain ⟨x, hx, st0, ow0, yd⟩ := hY i H2 O2 v H3 hi (n.ext rpw) n.rp.dom hy
    rw [drop_cons hx, lcC] at e1
    obtain ⟨⟨zs, ρ3⟩, f1, e1⟩ := Option.bind_eq_some_iff.mp e1
    obtain ⟨⟨rest', ρE'⟩, f2, e3⟩ := Option.map_eq_some_iff.mp e1
    simp only at f2 e3
    obtain ⟨ρb, g1, f1⟩ := Option.bind_eq_some_iff.mp f1
    obtain ⟨⟨b, ρc⟩, g2, f1⟩ := Option.bind_eq_some_iff.mp f1
    have b0 := Bz.of (vs := vs) n rpw hD d1
    have b3 := b0.st0 rpw st0 ow0
    have D3 : H3 D = some (.lst accv) := st0.keep D _ d2 fun h => h
    have dA3 := DqA.ext n.rp.dom (st0.ext fun _ h => h.elim) d3
    intro s H0 C cl fp
    refine hg s H0 C cl fp ρ2 ρb x g1 (wipe σ vs) H3 O2 v b3.rp yd _ fun σ2 H4 O4 gx => ?_
    have hw : wipe σ2 vs = wipe σ vs := (wipe_eq gx.sl fun i hi => (gx.out i fun z => hi (hs i z)).1).trans (wipe_wipe fun _ h => h)
    have b4 := b3.gx rpw D3 gx hs
    have D4 : H4 D = some (.lst accv) := gx.st.keep D _ D3 fun h => h
    have dA4 := DqA.ext b3.rp.dom gx.ext dA3
    refine ⟨hw, fun s H0 C cl fp => ?_⟩
    refine ht s H0 C cl fp ρb b ρc g2 σ2 H4 O4 gx.rp _ fun H5 O5 n5 => ?_
    have b5 := b4.nx rpw n5
    have D5 := b4.nxD n5 D4
    have dA5 := DqA.ext b4.rp.dom (b4.ext n5) dA4
    cases b with
    | false =>
      rw [if_neg Bool.false_ne_true] at f1
      cases f1
      cases e3
      rw [if_neg Bool.false_ne_true]
      exact ⟨_, O5, acc, accv, _, f2, by simpa using e2, b5.over hw, b5.mem, D5, dA5⟩
    | true =>
      rw [if_pos rfl] at f1
      obtain ⟨⟨xs2, ρp⟩, g3, f1⟩ := Option.bind_eq_some_iff.mp f1
      obtain ⟨⟨ys2, ρE2⟩, g4, f1⟩ := Option.map_eq_some_iff.mp f1
      cases f1
      cases e3
      simp only at g4 f2
      rw [if_pos rfl]
      intro s H0 C cl fp
      refine hi1 s H0 C cl fp ρc xs2 ρp g3 σ2 H5 O5 b5.rp _ fun J1 H6 O6 n6 src1 => ?_
      have b6 := b5.nx rpw n6
      have D6 := b5.nxD n6 D5
      have dA6 := DqA.ext b5.rp.dom (b5.ext n6) dA5
      obtain ⟨G1, Y1, w1, hG1, hY1⟩ := src1
      refine walk_W w1 (fun j H' => ∃ ρ7 O7 acc1 accv1 rest1, lcL (fun x2 ρ2' => (bindT [] t1 x2 ρ2').bind fun ρ3 => (evTs Φ cifs1 ρ3).bind fun q2 =>
            if q2.1 = true then (ev Φ celt q2.2).bind fun s => (toD s.1).map fun y => (some y, wipeR s.2 vs1) else some (none, wipeR q2.2 vs1)) (xs2.drop j) ρ7 = some (rest1, ρE2) ∧ ys2 = acc1 ++ rest1 ∧
          Bz X.K H1 O1 (wipeR ρ1 vs) (wipe σ vs) D vs H' O7 ρ7 (wipe σ2 vs1) ∧ Ext H6 O6 H' O7 ∧ H' D = some (.lst accv1) ∧ DqA X.K H' O7 (acc ++ acc1) accv1) _ ?_ ?_ ?_ ?_
      · exact ⟨wipeR ρp vs1, O6, [], accv, ys2, by rw [List.drop_zero]; exact g4, rfl, b6.wipe vs1, Ext.refl, D6, by rw [List.append_nil]; exact dA6⟩
      · intro j H' _ ⟨ρ7, O7, acc1, accv1, rest1, _, _, _, ex, _⟩
        exact hG1 H' O7 ex
      · intro j v1 H7 H8 hj ⟨ρ7, O7, acc1, accv1, rest1, k1, k2, b7, ex7, D7, dA7⟩ hy1
        obtain ⟨x1, hx1, st1, ow1, yd1⟩ := hY1 j H7 O7 v1 H8 hj ex7 b7.rp.dom hy1
        rw [drop_cons hx1, lcL] at k1
        obtain ⟨⟨oy, ρ8⟩, m1, k1⟩ := Option.bind_eq_some_iff.mp k1
        obtain ⟨⟨rest1', ρE3⟩, m2, k3⟩ := Option.map_eq_some_iff.mp k1
        simp only at m2 k3
        obtain ⟨ρf, m3, m1⟩ := Option.bind_eq_some_iff.mp m1
        obtain ⟨⟨b1, ρg⟩, m4, m1⟩ := Option.bind_eq_some_iff.mp m1
        have b8 := b7.st0 rpw st1 ow1
        have ex8 : Ext H6 O6 H8 O7 := ex7.comp (st1.ext fun _ h => h.elim)
        have D8 : H8 D = some (.lst accv1) := st1.keep D _ D7 fun h => h
        have dA8 := DqA.ext b7.rp.dom (st1.ext fun _ h => h.elim) dA7
        intro s H0 C cl fp
        refine hg1 s H0 C cl fp ρ7 ρf x1 m3 (wipe σ2 vs1) H8 O7 v1 b8.rp yd1 _ fun σ3 H9 O9 gx1 => ?_
        have hw1 : wipe σ3 vs1 = wipe σ2 vs1 := (wipe_eq gx1.sl fun i hi => (gx1.out i fun z => hi (hs1 i z)).1).trans (wipe_wipe fun _ h => h)
        have b9 := b8.gx rpw D8 gx1 fun i z => hv1 i (hs1 i z)
        have ex9 := ex8.comp gx1.ext
        have D9 : H9 D = some (.lst accv1) := gx1.st.keep D _ D8 fun h => h
        have dA9 := DqA.ext b8.rp.dom gx1.ext dA8
        refine ⟨hw1, fun s H0 C cl fp => ?_⟩
        refine ht1 s H0 C cl fp ρf b1 ρg m4 σ3 H9 O9 gx1.rp _ fun Ha Oa na => ?_
        have ba := b9.nx rpw na
        have exa := ex9.comp (b9.ext na)
        have Da := b9.nxD na D9
        have dAa := DqA.ext b9.rp.dom (b9.ext na) dA9
        cases b1 with
        | false =>
          rw [if_neg Bool.false_ne_true] at m1
          cases m1
          cases k3
          rw [if_neg Bool.false_ne_true]
          have bw := ba.wipe vs1
          rw [hw1] at bw
          exact ⟨_, Oa, acc1, accv1, _, m2, k2, bw, exa, Da, dAa⟩
        | true =>
          rw [if_pos rfl] at m1
          obtain ⟨⟨re, ρd⟩, p1, m1⟩ := Option.bind_eq_some_iff.mp m1
          obtain ⟨y, p2, m1⟩ := Option.map_eq_some_iff.mp m1
          cases m1
          cases k3
          rw [if_pos rfl]
          intro s H0 C cl fp
          refine (he s H0 C cl fp).data p1 p2 ba.rp fun u Hb Ob nb dy => ?_
          have bb := ba.nx rpw nb
          have exb := exa.comp (ba.ext nb)
          have Db := ba.nxD nb Da
          have dAb := DqA.ext ba.rp.dom (ba.ext nb) dAa
          have hsz : accv1.length < sizeLine := by
            have hl := congrArg List.length e2
            have hl2 := congrArg List.length k2
            rw [List.length_append] at hl hl2
            simp only [List.length_cons, List.length_append] at hl hl2
            have := dAb.length
            rw [List.length_append] at this
            omega
          refine ⟨accv1, Db, hsz, ?_⟩
          have bc := bb.app rpw hD (xs := accv1 ++ [u])
          have bw := bc.wipe vs1
          rw [hw1] at bw
          refine ⟨_, Ob, acc1 ++ [y], accv1 ++ [u], _, m2, by rw [k2, List.append_assoc]; rfl, bw, exb.comp bb.appExt, upd_same, ?_⟩
          rw [← List.append_assoc]
          exact DqA.append (DqA.ext bb.rp.dom bb.appExt dAb) (.cons (Dq.ext bb.rp.dom bb.appExt dy) .nil)
      · intro H7 ⟨ρ7, O7, acc1, accv1, rest1, k1, k2, b7, ex7, D7, dA7⟩
        rw [List.drop_length, lcL] at k1
        cases k1
        rw [List.append_nil] at k2
        subst k2
        have hw2 : wipe (wipe σ2 vs1) vs = wipe σ vs := by
          rw [← hw]
          exact wipe_eq (wipe_length _ _) fun i hi => wipe_out fun z => hi (hv1 i z)
        exact ⟨_, O7, acc ++ ys2, accv1, _, f2, by rw [e2, List.append_assoc], b7.over hw2, b7.mem, D7, dA7⟩
  · intro H2 ⟨ρ2, O2, acc, accv, rest, e1, e2, n, d1, d2, d3⟩
    rw [List.drop_length, lcC] at e1
    cases e1
    rw [List.append_nil] at e2
    subst e2
    exact q _ H2 O2 (blk_end rp n1 n) ⟨D, accv, rfl, d1, n1.base hD, d2, d3⟩
theorem okE_lc2 {own : List (Str × Nat)} {pos : Pos} (hc : X.calm = true) (hN : X.N.Nodup) (ok : BlkOk X.N X.env.scope scope own) (hvs : own.map (·.2) = vs) (hset : notSet iter = true) (hset1 : notSet iter1 = true)
    (hi : OkI X Φ pr it tg iter) (hg : InB X scope fun Y => OkG Y pr [] t tg) (ht : InB X scope fun Y => OkTs Y Φ cifs ifs) (hi1 : InB X scope fun Y => OkI Y Φ pr1 it1 tg1 iter1) (hg1 : InB X scope fun Y => OkG Y pr1 [] t1 tg1) (ht1 : InB X scope fun Y => OkTs Y Φ cifs1 ifs1)
    (he : InB X scope fun Y => OkE Y Φ celt elt) (hs : ∀ i ∈ t.sl, i ∈ vs) (hs1 : ∀ i ∈ t1.sl, i ∈ vs1) (hv1 : ∀ i ∈ vs1, i ∈ vs) :
    OkE X Φ (.lc2 vs vs1 celt t it cifs t1 it1 cifs1) (.ListComp elt [⟨tg, iter, ifs, 0⟩, ⟨tg1, iter1, ifs1, 0⟩] scope pos) := by
  intro ρ r ρ' hv σ H O rp Q q
  subst hvs
  refine of_pe (pe_lc2 (own := own) (vs1 := vs1) (wi := twi X tg iter) (g := bwg X scope tg) (tt := bwts X scope ifs) (wi1 := bwi X scope tg1 iter1) (g1 := bwg X scope tg1) (tt1 := bwts X scope ifs1) (te := bwp X scope elt) hc hN pi_wp ok hv1
    (fun s H0 C cl fp => ?_) (fun s H0 C cl fp => ?_) (fun s H0 C cl fp => ?_) (fun s H0 C cl fp => ?_) (fun s H0 C cl fp => ?_) (fun s H0 C cl fp => ?_) (fun x => notSet_id hset) (fun _ x => notSet_id hset1)) (lc2_ok hi hg ht hi1 hg1 ht1 he hs hs1 hv1 hv rp q)
  · exact ⟨fun pins s1 σ1 H1 v u Q1 I r h => h s H0 C cl fp pins s1 u I r⟩
  · exact ⟨fun pins s1 σ1 H1 Q1 I h => h s H0 C cl fp pins s1 I⟩
  · exact ⟨fun pins s1 σ1 H1 Q1 I h => h s H0 C cl fp pins s1 I⟩
  · exact ⟨fun pins s1 σ1 H1 v u Q1 I r h => h s H0 C cl fp pins s1 u I r⟩
  · exact ⟨fun pins s1 σ1 H1 Q1 I h => h s H0 C cl fp pins s1 I⟩
  · exact ⟨fun pins s1 σ1 H1 Q1 I h => h s H0 C cl fp pins s1 I⟩
end
end DI

/-! DI13: statements. -/
namespace DI
open PySem L2
/-- what statements leave -/
structure Sx (K : PySem.W.Frag) (io : List Nat) (H : Hp) (O : List Addr) (ρ : Rho) (σ : L2.St) (H' : Hp) (O' : List Addr) (ρ' : Rho) (σ' : L2.St) : Prop where
  st : Stp H O (Own ρ σ) H' O'
  rp : Rp K H' O' ρ' σ'
  own : ∀ a, Own ρ' σ' a → Own ρ σ a ∨ H a = none
  io : ∀ i ∈ io, σ'[i]? = σ[i]? ∧ ∀ xs, gt ρ' i = some (.l xs) → ∃ ys, gt ρ i = some (.l ys)
/-- a result of statements -/
def RsX (K : PySem.W.Frag) (io : List Nat) (H0 H : Hp) (O : List Addr) (ρ : Rho) (σ : L2.St) : R → V → Prop
  | .l xs, v => ∃ a vs, v = .ref a ∧ a ∈ O ∧ H a = some (.lst vs) ∧ DqA K H O xs vs ∧ (H0 a = none ∨ ∃ i, i ∉ io ∧ gt ρ i = some (.l xs) ∧ σ[i]? = some (some (.ref a)) ∧ (io.all fun j => notTS (gt ρ j)) = true)
  | .d x, v => Dq K H O x v
  | .s xs, v => ∃ a vs, v = .ref a ∧ SqF K H a vs ∧ DqA K H O xs vs
  | .k ds, v => ∃ a kvs, v = .ref a ∧ a ∉ O ∧ H a = some (.dK kvs) ∧ DkA K H O ds kvs
def Fin (K : PySem.W.Frag) (io : List Nat) (H0 H : Hp) (O : List Addr) (ρ : Rho) (σ : L2.St) (D : Ends) : Fl → Prop
  | .nx => D.nx σ H
  | .bk => D.bk σ H
  | .ct => D.ct σ H
  | .rt r => ∀ v, RsX K io H0 H O ρ σ r v → D.rt v H
section
variable {K : PySem.W.Frag} {H H1 H2 : Hp} {O O1 O2 : List Addr} {ρ ρ1 ρ2 : Rho} {σ σ1 σ2 : L2.St} {io L : List Nat} {r : R} {v : V}
theorem Sx.refl (rp : Rp K H O ρ σ) : Sx K io H O ρ σ H O ρ σ := ⟨Stp.refl, rp, fun _ h => .inl h, fun _ _ => ⟨rfl, fun _ h => ⟨_, h⟩⟩⟩
theorem Sx.trans (rp : Rp K H O ρ σ) (x : Sx K io H O ρ σ H1 O1 ρ1 σ1) (y : Sx K io H1 O1 ρ1 σ1 H2 O2 ρ2 σ2) : Sx K io H O ρ σ H2 O2 ρ2 σ2 where
  st := x.st.trans y.st x.own rp.dom
  rp := y.rp
  own := fun a h => (y.own a h).elim (x.own a) fun z => .inr (x.st.base z)
  io := fun i hi => by
    obtain ⟨a1, a2⟩ := x.io i hi
    obtain ⟨b1, b2⟩ := y.io i hi
    refine ⟨b1.trans a1, fun xs h => ?_⟩
    obtain ⟨ys, h⟩ := b2 xs h
    exact a2 ys h
theorem Nx.sx (n : Nx K H O ρ σ H1 O1 ρ1) : Sx K io H O ρ σ H1 O1 ρ1 σ := ⟨n.st, n.rp, fun a h => .inl (n.own a h), fun i _ => ⟨rfl, n.ls i⟩⟩
theorem Gx.sx (g : Gx K io L H O ρ σ H1 O1 ρ1 σ1) : Sx K io H O ρ σ H1 O1 ρ1 σ1 := ⟨g.st.wide fun _ h => h.elim, g.rp, g.own, fun i hi => ⟨(g.out i (g.io i hi)).1, fun xs h => by
  rw [(g.out i (g.io i hi)).2] at h
  exact ⟨xs, h⟩⟩⟩
theorem Sx.ext (rp : Rp K H O ρ σ) (x : Sx K io H O ρ σ H1 O1 ρ1 σ1) : Ext H O H1 O1 := x.st.ext fun _ h => rp.own_mem h
theorem Sx.bind (x : Sx K io H O ρ σ H1 O1 ρ1 σ1) {i : Nat} (h : setS io i r ρ1 = some ρ2) (hr : RpR K H1 O1 r v) (hf : ∀ xs a, r = .l xs → v = .ref a → ¬ Own ρ1 σ1 a ∧ H a = none) : Sx K io H O ρ σ H1 O1 ρ2 (σ1.set i (some v)) := by
  obtain ⟨h1, h2, rfl⟩ := setS_some h
  refine ⟨x.st, x.rp.bind hr fun xs a e1 e2 => (hf xs a e1 e2).1, fun a ⟨j, xs, g, e⟩ => ?_, fun j hj => ?_⟩
  · rw [gt_set] at g
    rw [List.getElem?_set] at e
    by_cases c : i = j ∧ i < ρ1.length
    · rw [if_pos c] at g
      rw [if_pos c.1, if_pos (by rw [← x.rp.len]; exact c.2)] at e
      exact .inr (hf xs a (Option.some.inj g) (Option.some.inj (Option.some.inj e))).2
    · rw [if_neg c] at g
      have n : i ≠ j := fun z => c ⟨z, by rw [z]; exact gt_lt g⟩
      rw [if_neg n] at e
      exact x.own a ⟨j, xs, g, e⟩
  · have n : i ≠ j := fun z => h1 (by rw [z]; exact hj)
    rw [List.getElem?_set, if_neg n, gt_set, if_neg fun c => n c.1]
    exact x.io j hj
theorem RsT.rp {H0 : Hp} (h : RsT K H0 H O r v) : RpR K H O r v := by
  cases r with
  | d x => exact h
  | s xs => exact h
  | k ds => exact h
  | l xs =>
    obtain ⟨a, vs, e, m, _, ha, d⟩ := h
    exact ⟨a, vs, e, m, ha, d⟩
theorem RsT.rx {H0 : Hp} (h : RsT K H0 H O r v) : RsX K io H0 H O ρ σ r v := by
  cases r with
  | d x => exact h
  | s xs => exact h
  | k ds => exact h
  | l xs =>
    obtain ⟨a, vs, e, m, n0, ha, d⟩ := h
    exact ⟨a, vs, e, m, ha, d, .inl n0⟩
theorem RsX.from {H0 H00 : Hp} (hd : ∀ a, H0 a = none → H00 a = none) (h : RsX K io H0 H O ρ σ r v) : RsX K io H00 H O ρ σ r v := by
  cases r with
  | d x => exact h
  | s xs => exact h
  | k ds => exact h
  | l xs =>
    obtain ⟨a, vs, e, m, ha, d, n⟩ := h
    exact ⟨a, vs, e, m, ha, d, n.imp (hd a) id⟩
theorem Fin.from {H0 H00 : Hp} {D : Ends} {fl : Fl} (hd : ∀ a, H0 a = none → H00 a = none) (h : Fin K io H00 H O ρ σ D fl) : Fin K io H0 H O ρ σ D fl := by
  cases fl with
  | rt r => exact fun v hv => h v (hv.from hd)
  | _ => exact h
/-- several stores -/
def setsV : List Nat → List V → L2.St → L2.St
  | i :: is, v :: vs, σ => setsV is vs (σ.set i (some v))
  | _, _, σ => σ
theorem par_ok {σ0 : L2.St} : ∀ (is : List Nat) (rs : List R) (vs : List V) (ρ1 : Rho) (σ1 : L2.St), Sx K io H O ρ σ H1 O1 ρ1 σ1 → PdA K H H1 O1 σ0 (rs.map Arg.v) vs →
    (∀ p ∈ (rs.map Arg.v).zip vs, (∃ xs, p.1 = .v (.l xs)) → ∀ a, p.2 = .ref a → ¬ Own ρ1 σ1 a) → setPar io is rs ρ1 = some ρ2 → Sx K io H O ρ σ H1 O1 ρ2 (setsV is vs σ1)
  | [], [], [], ρ1, σ1, x, _, _, h => by cases h; exact x
  | i :: is, r :: rs, v :: vs, ρ1, σ1, x, .cons hr ne pd, no, h => by
    obtain ⟨ρ3, h1, h2⟩ := Option.bind_eq_some_iff.mp (show (setS io i r ρ1).bind (fun ρ1 => setPar io is rs ρ1) = some ρ2 from h)
    have nv : ∀ xs a, r = .l xs → v = .ref a → ¬ Own ρ1 σ1 a ∧ H a = none := fun xs a e1 e2 => by
      subst e1 e2
      refine ⟨no (Arg.v (.l xs), .ref a) (by rw [List.map_cons, List.zip_cons_cons]; exact List.mem_cons_self) ⟨xs, rfl⟩ a rfl, ?_⟩
      obtain ⟨b, ws, e, _, n, _⟩ := hr
      cases e
      exact n
    have x' := x.bind h1 (RsT.rp hr) nv
    refine par_ok is rs vs ρ3 _ x' pd (fun p hp ⟨xs, e⟩ a ea => ?_) h2
    intro ⟨j, ys, g, eo⟩
    obtain ⟨q1, q2, q3⟩ := setS_some h1
    subst q3
    rw [gt_set] at g
    rw [List.getElem?_set] at eo
    by_cases c : i = j ∧ i < ρ1.length
    · rw [if_pos c] at g
      rw [if_pos c.1, if_pos (by rw [← x.rp.len]; exact c.2)] at eo
      have e1 := Option.some.inj g
      have e2 := Option.some.inj (Option.some.inj eo)
      exact ne p hp ⟨xs, e⟩ ⟨ys, by rw [e1]⟩ (by rw [ea, e2])
    · rw [if_neg c] at g
      have n : i ≠ j := fun z => c ⟨z, by rw [z]; exact gt_lt g⟩
      rw [if_neg n] at eo
      exact no p (by rw [List.map_cons, List.zip_cons_cons]; exact List.mem_cons_of_mem _ hp) ⟨xs, e⟩ a ea ⟨j, ys, g, eo⟩
  | [], r :: rs, _, _, _, _, _, _, h => by cases h
  | i :: is, [], _, _, _, _, _, _, h => by cases h
end
section
variable (X : Cx) (Φ : Phi) (wf : Nat) (io : List Nat)
def OkSt (c : CS) (st : Stmt) : Prop := ∀ (ρ : Rho) (fl : Fl) (ρ' : Rho), ex Φ wf io c ρ = some (fl, ρ') → ∀ (σ : L2.St) (H : Hp) (O : List Addr), Rp X.K H O ρ σ → ∀ D : Ends,
  (∀ σ' H' O', Sx X.K io H O ρ σ H' O' ρ' σ' → Fin X.K io H H' O' ρ' σ' D fl) → tws X st D σ H
def OkSs (c : CSs) (sts : List Stmt) : Prop := ∀ (ρ : Rho) (fl : Fl) (ρ' : Rho), exs Φ wf io c ρ = some (fl, ρ') → ∀ (σ : L2.St) (H : Hp) (O : List Addr), Rp X.K H O ρ σ → ∀ D : Ends,
  (∀ σ' H' O', Sx X.K io H O ρ σ H' O' ρ' σ' → Fin X.K io H H' O' ρ' σ' D fl) → twss X sts D σ H
def OkR (cs : CEs) (es : List Expr) : Prop := ∀ (ρ : Rho) (rs : List R) (ρ' : Rho), evr Φ cs ρ = some (rs, ρ') → ∀ (σ : L2.St) (H : Hp) (O : List Addr), Rp X.K H O ρ σ → ∀ Q : List V → Hp → Prop,
  (∀ vs H' O', Nx X.K H O ρ σ H' O' ρ' → PdA X.K H H' O' σ (rs.map Arg.v) vs → Q vs H') → twa X es σ H Q
end
section
variable {X : Cx} {Φ : Phi} {wf : Nat} {io : List Nat} {c : CE} {e : Expr} {cs : CEs} {es : List Expr} {pos pos' : Pos} {a b : CSs} {sa sb : List Stmt} {s : CS} {st : Stmt} {sts : List Stmt} {ss : CSs}
theorem okR_nil : OkR X Φ .nil [] := by
  intro ρ rs ρ' hv σ H O rp Q q
  rw [evr] at hv
  cases hv
  exact of_pa pa_nil (q [] H O (Nx.refl rp) .nil)
theorem okR_cons (hn : notStar e = true) (h : OkE X Φ c e) (ht : OkR X Φ cs es) : OkR X Φ (.cons c cs) (e :: es) := by
  intro ρ rs ρ' hv σ H O rp Q q
  rw [evr] at hv
  obtain ⟨⟨r, ρ1⟩, h1, hv⟩ := Option.bind_eq_some_iff.mp hv
  obtain ⟨⟨rs1, ρ2⟩, h2, e2⟩ := Option.map_eq_some_iff.mp hv
  cases e2
  refine of_pa (pa_cons pe_wp pa_wp (star_cons hn)) ?_
  refine h ρ r ρ1 h1 σ H O rp _ fun v H1 O1 n1 r1 => ?_
  refine ht ρ1 rs1 _ h2 σ H1 O1 n1.rp _ fun vs H2 O2 n2 pd => ?_
  exact q _ H2 O2 (n1.trans rp n2) (pd_cons rp n1 (show RsA X.K H H1 O1 σ (.v r) v from r1) n2 pd)
/-! one by one -/
theorem set_end {i : Nat} {r : R} {ρ ρ1 ρ2 : Rho} {σ : L2.St} {H H1 : Hp} {O O1 : List Addr} {v : V} {D : Ends} (rp : Rp X.K H O ρ σ) (n : Nx X.K H O ρ σ H1 O1 ρ1) (hr : RsT X.K H H1 O1 r v) (h : setS io i r ρ1 = some ρ2)
    (q : ∀ σ' H' O', Sx X.K io H O ρ σ H' O' ρ2 σ' → Fin X.K io H H' O' ρ2 σ' D .nx) : gName i v σ H1 D.nx := by
  refine q _ H1 O1 (n.sx.bind h hr.rp fun xs a e1 e2 => ?_)
  subst e1 e2
  obtain ⟨b, ws, e, _, n0, _⟩ := hr
  cases e
  exact ⟨fun z => n.nown rp a z n0, n0⟩
theorem okS_set {i : Nat} {x : Str} (hN : X.N.Nodup) (hi : X.N[i]? = some x) (hx : Loc X.env.scope x) (hf : X.fn x = true ∨ X.env.scope.names.lookup x = some .local) (hs : swapsWith e (some (.Name x pos')) pos.line X.env = pure false) (h : OkE X Φ c e) :
    OkSt X Φ wf io (.set i c) (.Assign [.Name x pos'] e pos) := by
  intro ρ fl ρ' hv σ H O rp D q
  rw [ex] at hv
  obtain ⟨⟨r, ρ1⟩, h1, hv⟩ := Option.bind_eq_some_iff.mp hv
  obtain ⟨ρ2, h2, e2⟩ := Option.map_eq_some_iff.mp hv
  cases e2
  refine of_ps (ps_set hN hi hx pe_wp hs hf) ?_
  exact h ρ r ρ1 h1 σ H O rp _ fun v H1 O1 n hr => set_end rp n hr h2 q
theorem okS_setLc {pr : Bool} {i : Nat} {x : Str} {own : List (Str × Nat)} {vs : List Nat} {celt : CE} {t : CT} {it : CI} {cifs : CEs} {elt tg iter : Expr} {ifs : List Expr} {scope : Scope} (hN : X.N.Nodup) (hi : X.N[i]? = some x) (hyl : X.env.scope.names.lookup x = some .local)
    (hsw : swapsWith (.ListComp elt [⟨tg, iter, ifs, 0⟩] scope pos) (some (.Name x pos')) st.pos.line X.env = pure true)
    (hc : X.calm = true) (ok : BlkOk X.N X.env.scope scope own) (hvs : own.map (·.2) = vs) (hset : notSet iter = true)
    (hI : OkI X Φ pr it tg iter) (hg : InB X scope fun Y => OkG Y pr [] t tg) (ht : InB X scope fun Y => OkTs Y Φ cifs ifs) (he : InB X scope fun Y => OkE Y Φ celt elt) (hs : ∀ i ∈ t.sl, i ∈ vs) {spos : Pos} (hst : st = .Assign [.Name x pos'] (.ListComp elt [⟨tg, iter, ifs, 0⟩] scope pos) spos) :
    OkSt X Φ wf io (.set i (.lc vs celt t it cifs)) st := by
  intro ρ fl ρ' hv σ H O rp D q
  subst hst
  subst hvs
  rw [ex] at hv
  obtain ⟨⟨r, ρ1⟩, h1, hv⟩ := Option.bind_eq_some_iff.mp hv
  obtain ⟨ρ2, h2, e2⟩ := Option.map_eq_some_iff.mp hv
  cases e2
  refine of_ps (ps_setLc (own := own) (wi := twi X tg iter) (g := bwg X scope tg) (tt := bwts X scope ifs) (te := bwp X scope elt) hc hN hi hyl hsw pi_wp ok (fun s H0 C cl fp => ?_) (fun s H0 C cl fp => ?_) (fun s H0 C cl fp => ?_) (fun x => notSet_id hset))
    (lc_ok hI hg ht he hs h1 rp fun v H1 O1 n hr => set_end rp n hr h2 q)
  · exact ⟨fun pins s1 σ1 H1 v u Q1 I r h => h s H0 C cl fp pins s1 u I r⟩
  · exact ⟨fun pins s1 σ1 H1 Q1 I h => h s H0 C cl fp pins s1 I⟩
  · exact ⟨fun pins s1 σ1 H1 Q1 I h => h s H0 C cl fp pins s1 I⟩
theorem okS_asg {t : CT} {tg : Expr} (hs : swapsWithSole [tg] e pos.line X.env = pure false) (hw : swappedStores [tg] e X.env = pure none) (hn : notStar tg = true) (h : OkE X Φ c e) (hg : OkGd X io t tg) : OkSt X Φ wf io (.asg t c) (.Assign [tg] e pos) := by
  intro ρ fl ρ' hv σ H O rp D q
  rw [ex] at hv
  obtain ⟨⟨r, ρ1⟩, h1, hv⟩ := Option.bind_eq_some_iff.mp hv
  obtain ⟨x, h2, hv⟩ := Option.bind_eq_some_iff.mp hv
  obtain ⟨ρ2, h3, e2⟩ := Option.map_eq_some_iff.mp hv
  cases e2
  refine of_ps (ps_asg pe_wp pg_wp hs hw (by rw [each_cons hn]; rfl)) ?_
  refine h.data h1 h2 rp fun v H1 O1 n dq => ?_
  exact hg ρ1 _ x h3 σ H1 O1 v n.rp dq _ fun σ2 H2 O2 g => q σ2 H2 O2 (n.sx.trans rp g.sx)
theorem okS_par2 {i j : Nat} {x y : Str} {ea eb : Expr} {px py pt pt2 : Pos} {kt k2 : Nat} (hc : X.calm = true) (hN : X.N.Nodup) (hi : X.N[i]? = some x) (hj : X.N[j]? = some y) (hx : X.env.scope.names.lookup x = some .local) (hy : X.env.scope.names.lookup y = some .local)
    (hw : swappedStores [.Tuple [.Name x px, .Name y py] kt pt] (.Tuple [ea, eb] k2 pt2) X.env = pure (some [x, y])) (h : OkR X Φ cs [ea, eb]) : OkSt X Φ wf io (.par [i, j] cs) (.Assign [.Tuple [.Name x px, .Name y py] kt pt] (.Tuple [ea, eb] k2 pt2) pos) := by
  intro ρ fl ρ' hv σ H O rp D q
  rw [ex] at hv
  obtain ⟨⟨rs, ρ1⟩, h1, hv⟩ := Option.bind_eq_some_iff.mp hv
  simp only at hv
  split at hv
  · rename_i nd
    obtain ⟨ρ2, h2, e2⟩ := Option.map_eq_some_iff.mp hv
    cases e2
    have hij : i ≠ j := fun z => by rw [z] at nd; exact absurd nd (by simp)
    refine of_ps (ps_par hc hN hi hj hij hx hy pa_wp hw rfl) ?_
    refine h ρ rs ρ1 h1 σ H O rp _ fun vs H1 O1 n pd => ?_
    have hp := par_ok [i, j] rs vs ρ1 σ n.sx pd (fun p hp hx a ha z => by
      obtain ⟨b, e, hb⟩ := pd.tmp_none p hp hx
      rw [ha] at e
      cases e
      exact n.nown rp a z hb) h2
    match rs, vs, pd, h2 with
    | [r1, r2], [v1, v2], _, _ => exact ⟨v1, v2, rfl, q _ H1 O1 hp⟩
    | [], _, _, h2 => cases h2
    | [r1], _, _, h2 =>
      obtain ⟨_, _, h3⟩ := Option.bind_eq_some_iff.mp (show (setS io i r1 ρ1).bind (fun ρ1 => setPar io [j] [] ρ1) = some _ from h2)
      cases h3
    | r1 :: r2 :: r3 :: rr, _, _, h2 =>
      obtain ⟨_, _, h3⟩ := Option.bind_eq_some_iff.mp (show (setS io i r1 ρ1).bind (fun ρ1 => setPar io [j] (r2 :: r3 :: rr) ρ1) = some _ from h2)
      obtain ⟨_, _, h3⟩ := Option.bind_eq_some_iff.mp (show (setS io j r2 _).bind (fun ρ1 => setPar io [] (r3 :: rr) ρ1) = some _ from h3)
      cases h3
  · cases hv
theorem okS_par3 {i j l : Nat} {x y z : Str} {ea eb ec : Expr} {px py pz pt pt2 : Pos} {kt k2 : Nat} (hc : X.calm = true) (hN : X.N.Nodup) (hi : X.N[i]? = some x) (hj : X.N[j]? = some y) (hl : X.N[l]? = some z) (hx : X.env.scope.names.lookup x = some .local) (hy : X.env.scope.names.lookup y = some .local) (hz : X.env.scope.names.lookup z = some .local)
    (hw : swappedStores [.Tuple [.Name x px, .Name y py, .Name z pz] kt pt] (.Tuple [ea, eb, ec] k2 pt2) X.env = pure (some [x, y, z])) (h : OkR X Φ cs [ea, eb, ec]) : OkSt X Φ wf io (.par [i, j, l] cs) (.Assign [.Tuple [.Name x px, .Name y py, .Name z pz] kt pt] (.Tuple [ea, eb, ec] k2 pt2) pos) := by
  intro ρ fl ρ' hv σ H O rp D q
  rw [ex] at hv
  obtain ⟨⟨rs, ρ1⟩, h1, hv⟩ := Option.bind_eq_some_iff.mp hv
  simp only at hv
  split at hv
  · rename_i nd
    obtain ⟨ρ2, h2, e2⟩ := Option.map_eq_some_iff.mp hv
    cases e2
    have h3 : i ≠ j ∧ i ≠ l ∧ j ≠ l := by
      simp only [List.nodup_cons, List.mem_cons, List.not_mem_nil, or_false, not_or] at nd
      exact ⟨nd.1.1, nd.1.2, nd.2.1⟩
    refine of_ps (ps_par3 hc hN hi hj hl h3.1 h3.2.1 h3.2.2 hx hy hz pa_wp hw rfl) ?_
    refine h ρ rs ρ1 h1 σ H O rp _ fun vs H1 O1 n pd => ?_
    have hp := par_ok [i, j, l] rs vs ρ1 σ n.sx pd (fun p hp hx a ha z => by
      obtain ⟨b, e, hb⟩ := pd.tmp_none p hp hx
      rw [ha] at e
      cases e
      exact n.nown rp a z hb) h2
    have hlen : rs.length = 3 := by
      match rs, h2 with
      | [r1, r2, r3], _ => rfl
      | [], h2 => cases h2
      | [r1], h2 =>
        obtain ⟨_, _, h3⟩ := Option.bind_eq_some_iff.mp (show (setS io i r1 ρ1).bind (fun ρ1 => setPar io [j, l] [] ρ1) = some _ from h2)
        cases h3
      | [r1, r2], h2 =>
        obtain ⟨_, _, h3⟩ := Option.bind_eq_some_iff.mp (show (setS io i r1 ρ1).bind (fun ρ1 => setPar io [j, l] [r2] ρ1) = some _ from h2)
        obtain ⟨_, _, h3⟩ := Option.bind_eq_some_iff.mp (show (setS io j r2 _).bind (fun ρ1 => setPar io [l] [] ρ1) = some _ from h3)
        cases h3
      | r1 :: r2 :: r3 :: r4 :: rr, h2 =>
        obtain ⟨_, _, h3⟩ := Option.bind_eq_some_iff.mp (show (setS io i r1 ρ1).bind (fun ρ1 => setPar io [j, l] (r2 :: r3 :: r4 :: rr) ρ1) = some _ from h2)
        obtain ⟨_, _, h3⟩ := Option.bind_eq_some_iff.mp (show (setS io j r2 _).bind (fun ρ1 => setPar io [l] (r3 :: r4 :: rr) ρ1) = some _ from h3)
        obtain ⟨_, _, h3⟩ := Option.bind_eq_some_iff.mp (show (setS io l r3 _).bind (fun ρ1 => setPar io [] (r4 :: rr) ρ1) = some _ from h3)
        cases h3
    have hvl := pd.length
    rw [List.length_map, hlen] at hvl
    match vs, hvl with
    | [v1, v2, v3], _ => exact ⟨v1, v2, v3, rfl, q _ H1 O1 hp⟩
  · cases hv
theorem okS_setix {i : Nat} {x : Str} {cb : CE} {eb : Expr} {px tpos : Pos} (hs : swapsWithSole [.Subscript (.Name x px) eb tpos] e pos.line X.env = pure false) (hw : swappedStores [.Subscript (.Name x px) eb tpos] e X.env = pure none)
    (ha : ∀ v, assign (.Subscript (.Name x px) eb tpos) X.env v = (do
      let ov ← holding [v] (eval (.Name x px) X.env)
      let iv ← holding [v, ov] (eval eb X.env)
      standAt tpos
      holding [v, ov, iv] (setItem ov iv v)
      release [v, ov, iv] [])) (hp : PE X (.Name x px) (tVar i)) (h : OkE X Φ c e) (hb : OkE X Φ cb eb) : OkSt X Φ wf io (.setix i cb c) (.Assign [.Subscript (.Name x px) eb tpos] e pos) := by
  intro ρ fl ρ' hv σ H O rp D q
  rw [ex] at hv
  obtain ⟨⟨r, ρ1⟩, h1, hv⟩ := Option.bind_eq_some_iff.mp hv
  obtain ⟨d, h2, hv⟩ := Option.bind_eq_some_iff.mp hv
  obtain ⟨r0, hgi, hv⟩ := Option.bind_eq_some_iff.mp hv
  obtain ⟨⟨r2, ρ2⟩, h3, hv⟩ := Option.bind_eq_some_iff.mp hv
  simp only at hv
  split at hv
  · rename_i xs k hg
    obtain ⟨j, hj, e2⟩ := Option.map_eq_some_iff.mp hv
    cases e2
    refine of_ps (ps_asg pe_wp (pg_sub hp pe_wp set_list ha) hs hw (by rw [each_cons (by rfl)]; rfl)) ?_
    refine h.data h1 h2 rp fun v H1 O1 n dq => ?_
    -- the list's address is the slot's
    obtain ⟨v0, hs0, _⟩ := n.rp.slot i r0 hgi
    refine ⟨v0, hs0, ?_⟩
    refine hb ρ1 _ ρ2 h3 σ H1 O1 n.rp _ fun u H2 O2 n2 hr => ?_
    obtain ⟨v', hs', a, vs, rfl, m, ha', dA⟩ := n2.rp.slot i _ hg
    rw [hs0] at hs'
    cases hs'
    cases hr
    refine ⟨a, vs, k, j, rfl, rfl, ha', by rw [← dA.length]; exact hj, ?_⟩
    have dq2 := Dq.ext n.rp.dom (n2.ext n.rp) dq
    have st : Stp H2 O2 (fun z => z = a) (L2.upd H2 a (.lst (vs.set j v))) O2 := Stp.wr
    have ex2 := st.ext (S := fun z => z = a) fun z hz => by rw [hz]; exact m
    have rp2 := n2.rp.put st hg hs0 (fun z hz => hz) (n2.rp.dom.upd rfl) (q := .l (xs.set j d)) ⟨a, _, rfl, m, upd_same, DqA.ext n2.rp.dom ex2 (DqA.set dq2 j dA)⟩
    have n12 := n.trans rp n2
    refine q σ _ O2 ⟨n12.st.trans st (fun z hz => .inl (by rw [hz]; exact n12.own a ⟨i, xs, hg, hs0⟩)) rp.dom, rp2, fun b ⟨l, ys, g, e⟩ => .inl ?_, fun l hl => ⟨rfl, fun ys g => ?_⟩⟩
    · rw [gt_set] at g
      split at g
      · rename_i c
        rw [← c.1, hs0] at e
        cases e
        exact n12.own a ⟨i, xs, hg, hs0⟩
      · exact n12.own b ⟨l, ys, g, e⟩
    · rw [gt_set] at g
      split at g
      · rename_i c
        rw [← c.1]
        exact n12.ls i xs hg
      · exact n12.ls l ys g
  · cases hv
theorem okS_aug {i : Nat} {x : Str} {o : BOp} (hN : X.N.Nodup) (hi : X.N[i]? = some x) (hx : Loc X.env.scope x) (hf : X.fn x = true ∨ X.env.scope.names.lookup x = some .local) (h : OkE X Φ c e) :
    OkSt X Φ wf io (.aug i o c) (.AugAssign (.Name x pos') (bopE o) e pos) := by
  intro ρ fl ρ' hv σ H O rp D q
  rw [ex.eq_def] at hv
  simp only at hv
  have key : ∀ (f : Int → Int → Int), PIp X (bopE o) (ipI f) → ∀ a, gt ρ i = some (.d (.int a)) → ((ev Φ c ρ).bind fun p => match p.1 with
      | .d (.int b) => (setS io i (.d (.int (f a b))) p.2).map fun ρ1 => (Fl.nx, ρ1)
      | _ => none) = some (fl, ρ') → tws X (.AugAssign (.Name x pos') (bopE o) e pos) D σ H := fun f hip a hga hv => by
    obtain ⟨⟨r, ρ1⟩, h1, hv⟩ := Option.bind_eq_some_iff.mp hv
    simp only at hv
    split at hv
    · obtain ⟨ρ2, h2, e2⟩ := Option.map_eq_some_iff.mp hv
      cases e2
      refine of_ps (ps_aug hN hi hx pe_wp hip hf) ?_
      obtain ⟨v0, hs0, d0⟩ := rp.slot i _ hga
      cases d0
      refine ⟨_, hs0, ?_⟩
      refine h ρ _ ρ1 h1 σ H O rp _ fun v H1 O1 n hr => ?_
      cases hr
      refine ⟨_, _, rfl, rfl, ?_⟩
      exact q _ H1 O1 (n.sx.bind h2 (.int _) fun _ _ e => by cases e)
    · cases hv
  split at hv
  · rename_i a hga
    exact key _ ip_add a hga hv
  · rename_i a hga
    exact key _ ip_sub a hga hv
  · cases hv
theorem okS_ret (h : OkE X Φ c e) : OkSt X Φ wf io (.ret c) (.Return (some e) pos) := by
  intro ρ fl ρ' hv σ H O rp D q
  rw [ex] at hv
  obtain ⟨⟨r, ρ1⟩, h1, e2⟩ := Option.map_eq_some_iff.mp hv
  cases e2
  refine of_ps (ps_ret pe_wp) ?_
  exact h ρ r ρ1 h1 σ H O rp _ fun v H1 O1 n hr => q σ H1 O1 n.sx v hr.rx
theorem okS_retv {i : Nat} (hp : PE X e (tVar i)) : OkSt X Φ wf io (.retv i) (.Return (some e) pos) := by
  intro ρ fl ρ' hv σ H O rp D q
  rw [ex] at hv
  split at hv
  · cases hv
  · rename_i hio
    rw [not_or] at hio
    obtain ⟨r, h1, e2⟩ := Option.map_eq_some_iff.mp hv
    cases e2
    refine of_ps (ps_ret hp) ?_
    obtain ⟨v, hs, hr⟩ := rp.slot i r h1
    refine ⟨v, hs, q σ H O (Sx.refl rp) v ?_⟩
    cases r with
    | d x => exact hr
    | s xs => exact hr
    | k ds => exact hr
    | l xs =>
      obtain ⟨a, vs, rfl, m, ha, d⟩ := hr
      exact ⟨a, vs, rfl, m, ha, d, .inr ⟨i, hio.1, h1, hs, by simpa using hio.2⟩⟩
theorem okS_retn : OkSt X Φ wf io .retn (.Return none pos) := by
  intro ρ fl ρ' hv σ H O rp D q
  rw [ex] at hv
  cases hv
  exact of_ps ps_retN (q σ H O (Sx.refl rp) .non Dq.non)
theorem okS_exp (hs : swapsWith e none pos.line X.env = pure false) (h : OkE X Φ c e) : OkSt X Φ wf io (.exp c) (.Expr e pos) := by
  intro ρ fl ρ' hv σ H O rp D q
  rw [ex] at hv
  obtain ⟨⟨r, ρ1⟩, h1, e2⟩ := Option.map_eq_some_iff.mp hv
  cases e2
  refine of_ps (ps_expr pe_wp hs) ?_
  exact h ρ r ρ1 h1 σ H O rp _ fun v H1 O1 n hr => q σ H1 O1 n.sx
theorem okS_doc {x : Str} {j : Nat} : OkSt X Φ wf io .pass (.Expr (.Constant (.str x) j pos) pos') := by
  intro ρ fl ρ' hv σ H O rp D q
  rw [ex] at hv
  cases hv
  exact of_ps ps_doc (q σ H O (Sx.refl rp))
theorem okS_pass : OkSt X Φ wf io .pass (.Pass pos) := by
  intro ρ fl ρ' hv σ H O rp D q
  rw [ex] at hv
  cases hv
  exact of_ps ps_pass (q σ H O (Sx.refl rp))
theorem okS_brk : OkSt X Φ wf io .brk (.Break pos) := by
  intro ρ fl ρ' hv σ H O rp D q
  rw [ex] at hv
  cases hv
  exact of_ps ps_break (q σ H O (Sx.refl rp))
theorem okS_cont : OkSt X Φ wf io .cont (.Continue pos) := by
  intro ρ fl ρ' hv σ H O rp D q
  rw [ex] at hv
  cases hv
  exact of_ps ps_continue (q σ H O (Sx.refl rp))
theorem okSs_nil : OkSs X Φ wf io .nil [] := by
  intro ρ fl ρ' hv σ H O rp D q
  rw [exs] at hv
  cases hv
  exact of_pss pss_nil (q σ H O (Sx.refl rp))
theorem okSs_cons (h : OkSt X Φ wf io s st) (hr : OkSs X Φ wf io ss sts) : OkSs X Φ wf io (.cons s ss) (st :: sts) := by
  intro ρ fl ρ' hv σ H O rp D q
  rw [exs] at hv
  obtain ⟨⟨f1, ρ1⟩, h1, hv⟩ := Option.bind_eq_some_iff.mp hv
  refine of_pss (pss_cons ps_wp pss_wp) ?_
  refine h ρ f1 ρ1 h1 σ H O rp _ fun σ1 H1 O1 x => ?_
  cases f1 with
  | nx =>
    refine hr ρ1 fl ρ' hv σ1 H1 O1 x.rp _ fun σ2 H2 O2 y => ?_
    exact Fin.from (fun a z => x.st.base z) (q σ2 H2 O2 (x.trans rp y))
  | bk => cases hv; exact q σ1 H1 O1 x
  | ct => cases hv; exact q σ1 H1 O1 x
  | rt r => cases hv; exact q σ1 H1 O1 x
theorem okS_if (hc : OkT X Φ c e) (ha : OkSs X Φ wf io a sa) (hb : OkSs X Φ wf io b sb) : OkSt X Φ wf io (.ifS c a b) (.If e sa sb pos) := by
  intro ρ fl ρ' hv σ H O rp D q
  rw [ex] at hv
  obtain ⟨⟨k, ρ1⟩, h1, hv⟩ := Option.bind_eq_some_iff.mp hv
  refine of_ps (ps_if pt_wp pss_wp pss_wp) ?_
  refine hc ρ k ρ1 h1 σ H O rp _ fun H1 O1 n => ?_
  have fin : ∀ σ2 H2 O2, Sx X.K io H1 O1 ρ1 σ H2 O2 ρ' σ2 → Fin X.K io H1 H2 O2 ρ' σ2 D fl := fun σ2 H2 O2 y => Fin.from (fun a z => n.base z) (q σ2 H2 O2 (n.sx.trans rp y))
  cases k with
  | true => rw [if_pos rfl] at hv ⊢; exact ha ρ1 fl ρ' hv σ H1 O1 n.rp D fin
  | false => rw [if_neg Bool.false_ne_true] at hv ⊢; exact hb ρ1 fl ρ' hv σ H1 O1 n.rp D fin
theorem okS_for {pr : Bool} {t : CT} {it : CI} {tg iter : Expr} (hp : PassesOwn (model X.prog X.w) X.A X.env X.xe) (hc : X.calm = true) (hset : notSet iter = true) (hI : OkI X Φ pr it tg iter) (hg : OkG X pr io t tg) (hb : OkSs X Φ wf io a sa) :
    OkSt X Φ wf io (.forS t it a) (.For tg iter sa [] pos) := by
  intro ρ fl ρ' hv σ H O rp D q
  rw [ex] at hv
  obtain ⟨⟨xs, ρ1⟩, h1, hv⟩ := Option.bind_eq_some_iff.mp hv
  simp only at hv
  refine of_ps (ps_for hp hc pi_wp pg_wp pss_wp (fun x => notSet_id hset)) ?_
  refine hI ρ xs ρ1 h1 σ H O rp _ fun J H1 O1 n1 src => ?_
  obtain ⟨G, Y, w, hG, hY⟩ := src
  refine for_it w (fun i σ' H' => ∃ ρ2 O2, forL (fun x ρ' => (bindT io t x ρ').bind fun ρ1 => exs Φ wf io a ρ1) (xs.drop i) ρ2 = some (fl, ρ') ∧ Sx X.K io H O ρ σ H' O2 ρ2 σ' ∧ Ext H1 O1 H' O2) ?_ ?_ ?_ ?_
  · exact ⟨ρ1, O1, by rw [List.drop_zero]; exact hv, n1.sx, Ext.refl⟩
  · intro i σ2 H2 _ ⟨ρ2, O2, _, _, x⟩
    exact hG H2 O2 x
  · intro i v σ2 H2 H3 hi ⟨ρ2, O2, e1, x2, x3⟩ hy
    obtain ⟨x, hx, st0, ow0, yd⟩ := hY i H2 O2 v H3 hi x3 x2.rp.dom hy
    rw [drop_cons hx, forL] at e1
    obtain ⟨⟨f1, ρ3⟩, f2, e1⟩ := Option.bind_eq_some_iff.mp e1
    obtain ⟨ρb, g1, g2⟩ := Option.bind_eq_some_iff.mp f2
    have s0 : Sx X.K io H2 O2 ρ2 σ2 H3 O2 ρ2 σ2 := ⟨st0.wide fun _ h => h.elim, x2.rp.step st0 (fun _ h => h.elim) ow0, fun _ h => .inl h, fun _ _ => ⟨rfl, fun _ h => ⟨_, h⟩⟩⟩
    have ex3 : Ext H1 O1 H3 O2 := x3.comp (st0.ext fun _ h => h.elim)
    refine hg ρ2 ρb x g1 σ2 H3 O2 v s0.rp yd _ fun σ4 H4 O4 gx => ?_
    refine hb ρb f1 ρ3 g2 σ4 H4 O4 gx.rp _ fun σ5 H5 O5 y => ?_
    have y' := gx.sx.trans s0.rp y
    have tot := x2.trans rp (s0.trans x2.rp y')
    have ex5 : Ext H1 O1 H5 O5 := ex3.comp (y'.ext s0.rp)
    cases f1 with
    | nx => exact ⟨ρ3, O5, e1, tot, ex5⟩
    | ct => exact ⟨ρ3, O5, e1, tot, ex5⟩
    | bk => cases e1; exact q σ5 H5 O5 tot
    | rt r =>
      cases e1
      have tot4 := x2.trans rp (s0.trans x2.rp gx.sx)
      exact fun v hv => q σ5 H5 O5 tot v (hv.from fun a z => tot4.st.base z)
  · intro σ2 H2 ⟨ρ2, O2, e1, x2, _⟩
    rw [List.drop_length, forL] at e1
    cases e1
    exact q σ2 H2 O2 x2
theorem okS_while (hp : PassesOwn (model X.prog X.w) X.A X.env X.xe) (hc : OkT X Φ c e) (hb : OkSs X Φ wf io a sa) : OkSt X Φ wf io (.whileS c a) (.While e sa [] pos) := by
  intro ρ fl ρ' hv σ H O rp D q
  rw [ex] at hv
  refine of_ps (ps_while hp pt_wp pss_wp) ?_
  refine ⟨fun m σ' H' => ∃ ρ2 O2, whL (fun ρ' => evT Φ c ρ') (fun ρ' => exs Φ wf io a ρ') m ρ2 = some (fl, ρ') ∧ Sx X.K io H O ρ σ H' O2 ρ2 σ', ⟨wf, ρ, O, hv, Sx.refl rp⟩, fun m σ2 H2 ⟨ρ2, O2, e1, x2⟩ => ?_⟩
  cases m with
  | zero => rw [whL] at e1; cases e1
  | succ m =>
    rw [whL] at e1
    obtain ⟨⟨k, ρ3⟩, f1, e1⟩ := Option.bind_eq_some_iff.mp e1
    refine hc ρ2 k ρ3 f1 σ2 H2 O2 x2.rp _ fun H3 O3 n => ?_
    have x3 := x2.trans rp n.sx
    cases k with
    | false =>
      rw [if_neg Bool.false_ne_true] at e1 ⊢
      cases e1
      exact q σ2 H3 O3 x3
    | true =>
      rw [if_pos rfl] at e1 ⊢
      obtain ⟨⟨f2, ρ4⟩, f3, e1⟩ := Option.bind_eq_some_iff.mp e1
      refine ⟨fun σ' H' => ∃ ρ2 O2, whL (fun ρ' => evT Φ c ρ') (fun ρ' => exs Φ wf io a ρ') m ρ2 = some (fl, ρ') ∧ Sx X.K io H O ρ σ H' O2 ρ2 σ', fun σ' H' h => ⟨m, Nat.lt_succ_self m, h⟩, ?_⟩
      refine hb ρ3 f2 ρ4 f3 σ2 H3 O3 x3.rp _ fun σ5 H5 O5 y => ?_
      have tot := x3.trans rp y
      cases f2 with
      | nx => exact ⟨ρ4, O5, e1, tot⟩
      | ct => exact ⟨ρ4, O5, e1, tot⟩
      | bk => cases e1; exact q σ5 H5 O5 tot
      | rt r =>
        cases e1
        exact fun v hv => q σ5 H5 O5 tot v (hv.from fun a z => x3.st.base z)
end
end DI

/-! DIS: a, *b, c = a tuple. -/
namespace DI
open PySem PySem.Spec PyProof.Rows
theorem tupFrom {prog : Program} {w : World} {A : Around} (hh : A.handled = none) (I ax : Addr) (hne : ax ≠ I) (items : Array Value) (i0 : Nat) (h0 : i0 ≤ items.size) :
    Walks prog w A I [I, ax] [I] (items.size - i0) (fun i v => items[i0 + i]? = some v) (fun i h => IsTupIter h I ax (i0 + i) ∧ IsTup h ax items) where
  sub := fun b hb => by simp at hb; simp [hb]
  frame := fun i h h' st hk => by
    obtain ⟨⟨o, h1, h2⟩, o2, h3, h4⟩ := st
    exact ⟨⟨o, hk I (by simp) o h1, h2⟩, o2, hk ax (by simp) o2 h3, h4⟩
  item := fun i s Q E hi st hQ => by
    refine next_tuple_item st.1 st.2 (x := items[i0 + i]'(by omega)) (by rw [Array.getElem?_eq_getElem (by omega)]) fun h' hit' hs' => ?_
    exact hQ _ h' s.toks (by rw [Array.getElem?_eq_getElem (by omega)]) ⟨hit', st.2.extBut hs'.extBut hne⟩ fun b o hb e => hs'.extBut b o (fun h => hb (by simp [h])) e
  done := fun s Q E st hQ => next_tuple_end hh st.1 st.2 (by rw [show i0 + (items.size - i0) = items.size by omega]; simp) fun h' he' => hQ h' s.toks fun b o hb e => he' b o (fun h => hb (by simp [h])) e
  self := fun _ _ _ _ st hQ => wpAny_pyIter_tupleiter st.1 hQ
theorem listFrom {prog : Program} {w : World} {A : Around} (hh : A.handled = none) (I ax : Addr) (hne : ax ≠ I) (items : Array Value) (i0 : Nat) (h0 : i0 ≤ items.size) :
    Walks prog w A I [I, ax] [I] (items.size - i0) (fun i v => items[i0 + i]? = some v) (fun i h => h.IsListIter I ax (i0 + i) ∧ h.IsList ax items) where
  sub := fun b hb => by simp at hb; simp [hb]
  frame := fun _ _ _ st hk => ⟨st.1.at fun o e => hk I (by simp) o e, st.2.at fun o e => hk ax (by simp) o e⟩
  item := fun i s Q E hi st hQ => by
    refine wpAny_pyNext_list_item st.1 st.2 (x := items[i0 + i]'(by omega)) (by rw [Array.getElem?_eq_getElem (by omega)]) fun h' hit' hs' => ?_
    exact hQ _ h' s.toks (by rw [Array.getElem?_eq_getElem (by omega)]) ⟨hit', st.2.extBut hs'.extBut hne⟩ fun b o hb e => hs'.extBut b o (fun h => hb (by simp [h])) e
  done := fun s Q E st hQ => wpAny_pyNext_list_end hh st.1 st.2 (by rw [show i0 + (items.size - i0) = items.size by omega]; simp) fun h' he' => hQ h' s.toks fun b o hb e => he' b o (fun h => hb (by simp [h])) e
  self := fun _ _ _ _ st hQ => wpAny_pyIter_listiter st.1 hQ
theorem items_drop {items acc : Array Value} {i : Nat} (h : ItemsOf (fun j v => items[i + j]? = some v) acc (items.size - i)) : acc.toList = items.toList.drop i := by
  apply List.ext_getElem?
  intro j
  rw [List.getElem?_drop, Array.getElem?_toList, Array.getElem?_toList]
  cases e : acc[j]? with
  | some v => exact (h.2 j v e).symm
  | none =>
    have h1 : acc.size ≤ j := Array.getElem?_eq_none_iff.mp e
    rw [h.1] at h1
    symm
    rw [Array.getElem?_eq_none_iff]
    omega
theorem unpackItems_star {prog : Program} {w : World} {A : Around} {E : Value → Shared → Prop} {s : Shared} {t : Addr} {items : Array Value} {i n : Nat} {Q : List Value → Shared → Prop} (hh : A.handled = none) (ht : IsTup s.heap t items) (hi : i < n) (hn : n ≤ items.size + 1) (hz : items.size ≤ sizeLine)
    (hQ : ∀ (h2 : Heap) (tk : Nat), (∀ b o, s.heap.get? b = some o → h2.get? b = some o) →
      Q (items.toList.take i ++ [.ref h2.objs.size] ++ items.toList.drop (items.size - (n - 1 - i))) { s with heap := h2.push { cls := .type "list", data := .seq ((items.toList.drop i).take (items.size - i - (n - 1 - i))).toArray }, toks := tk }) :
    wpAny (model prog w) A (unpackItems (.ref t) n (some i)) Q E s := by
  have hlt : t ≠ s.heap.objs.size := by obtain ⟨o, ho, _⟩ := ht; exact Nat.ne_of_lt (Heap.lt_size ho)
  unfold unpackItems
  refine wpAny_bind ?_
  unfold notIterableAtAll
  refine wpAny_bind (wpAny_specialOf ht.typeIs slot_tuple_iter.lookup ?_)
  refine wpAny_pure ?_
  simp only [Bool.false_eq_true, if_false]
  refine wpAny_bind (wpAny_holding (iter_tuple ht ?_))
  refine wpAny_bind (wpAny_holding (draw_tuple hlt i 0 _ _ ⟨_, Heap.get?_push_size _ rfl, rfl, rfl⟩ (ht.push _) (by omega) fun h1 hit1 hs1 => ?_))
  rw [List.drop_zero]
  have hfl : (items.toList.take i).length = i := by rw [List.length_take, Array.length_toList]; omega
  rw [if_neg (by rw [hfl]; omega)]
  have ht1 : IsTup h1 t items := (ht.push _).extBut hs1.extBut hlt
  have hit1 : IsTupIter h1 s.heap.objs.size t (i + 0) := by rw [Nat.zero_add] at hit1; exact hit1
  refine wpAny_bind (wpAny_holding (wpAny_collect_iter (.inr (.inr (.inr rfl))) (tupFrom (A := A.in1) hh s.heap.objs.size t hlt items i (by omega)).toS (fun j s st => ?_) ⟨hit1, ht1⟩ ?_ (by simp) (fun s2 acc mv hacc => ?_) (by omega)))
  · exact st.1.typeIs
  · intro b hb
    simp only [List.mem_cons, List.not_mem_nil, or_false] at hb
    rcases hb with rfl | rfl
    · obtain ⟨o, ho, _⟩ := hit1
      exact Heap.lt_size ho
    · obtain ⟨o, ho, _⟩ := ht1
      exact Heap.lt_size ho
  · have ea := items_drop hacc
    have hal : acc.toList.length = items.size - i := by rw [Array.length_toList]; exact hacc.1
    rw [if_neg (by rw [hal]; omega)]
    have h0 : ∀ b o, s.heap.get? b = some o → s2.heap.get? b = some o := fun b o e => by
      have hb : b ≠ s.heap.objs.size := Nat.ne_of_lt (Heap.lt_size e)
      exact mv.heap b o (by simp [hb]) (hs1.extBut b o hb (Heap.get?_push_of_some _ e))
    have eS := mv.eq_with
    have hsz : sizeOk (Data.seq (List.take (acc.toList.length - (n - 1 - i)) acc.toList).toArray) := by
      show (List.take (acc.toList.length - (n - 1 - i)) acc.toList).toArray.size ≤ sizeLine
      rw [List.size_toArray, List.length_take]
      omega
    refine wpAny_bind (wpAny_newObj_type ?_ hsz)
    refine wpAny_pure ?_
    rw [eS, hal, ea, List.drop_drop]
    have q := hQ s2.heap s2.toks h0
    rw [show i + (items.size - i - (n - 1 - i)) = items.size - (n - 1 - i) by omega]
    exact q
theorem unpackItems_starL {prog : Program} {w : World} {A : Around} {E : Value → Shared → Prop} {s : Shared} {t : Addr} {items : Array Value} {i n : Nat} {Q : List Value → Shared → Prop} (hh : A.handled = none) (ht : s.heap.IsList t items) (hi : i < n) (hn : n ≤ items.size + 1) (hz : items.size ≤ sizeLine)
    (hQ : ∀ (h2 : Heap) (tk : Nat), (∀ b o, s.heap.get? b = some o → h2.get? b = some o) →
      Q (items.toList.take i ++ [.ref h2.objs.size] ++ items.toList.drop (items.size - (n - 1 - i))) { s with heap := h2.push { cls := .type "list", data := .seq ((items.toList.drop i).take (items.size - i - (n - 1 - i))).toArray }, toks := tk }) :
    wpAny (model prog w) A (unpackItems (.ref t) n (some i)) Q E s := by
  have hlt : t ≠ s.heap.objs.size := by obtain ⟨o, ho, _⟩ := ht; exact Nat.ne_of_lt (Heap.lt_size ho)
  unfold unpackItems
  refine wpAny_bind ?_
  unfold notIterableAtAll
  refine wpAny_bind (wpAny_specialOf ht.typeIs slot_list_iter.lookup ?_)
  refine wpAny_pure ?_
  simp only [Bool.false_eq_true, if_false]
  refine wpAny_bind (wpAny_holding (wpAny_pyIter_list ht ?_))
  refine wpAny_bind (wpAny_holding (PySem.W.kun_draw hlt i 0 _ _ ⟨_, Heap.get?_push_size _ rfl, rfl, rfl⟩ (ht.push _) (by omega) fun h1 hit1 hs1 => ?_))
  rw [List.drop_zero]
  have hfl : (items.toList.take i).length = i := by rw [List.length_take, Array.length_toList]; omega
  rw [if_neg (by rw [hfl]; omega)]
  have ht1 : h1.IsList t items := (ht.push _).extBut hs1.extBut hlt
  have hit1 : h1.IsListIter s.heap.objs.size t (i + 0) := by rw [Nat.zero_add] at hit1; exact hit1
  refine wpAny_bind (wpAny_holding (wpAny_collect_iter (.inr (.inr (.inl rfl))) (listFrom (A := A.in1) hh s.heap.objs.size t hlt items i (by omega)).toS (fun j s st => ?_) ⟨hit1, ht1⟩ ?_ (by simp) (fun s2 acc mv hacc => ?_) (by omega)))
  · exact st.1.typeIs
  · intro b hb
    simp only [List.mem_cons, List.not_mem_nil, or_false] at hb
    rcases hb with rfl | rfl
    · obtain ⟨o, ho, _⟩ := hit1
      exact Heap.lt_size ho
    · obtain ⟨o, ho, _⟩ := ht1
      exact Heap.lt_size ho
  · have ea := items_drop hacc
    have hal : acc.toList.length = items.size - i := by rw [Array.length_toList]; exact hacc.1
    rw [if_neg (by rw [hal]; omega)]
    have h0 : ∀ b o, s.heap.get? b = some o → s2.heap.get? b = some o := fun b o e => by
      have hb : b ≠ s.heap.objs.size := Nat.ne_of_lt (Heap.lt_size e)
      exact mv.heap b o (by simp [hb]) (hs1.extBut b o hb (Heap.get?_push_of_some _ e))
    have eS := mv.eq_with
    have hsz : sizeOk (Data.seq (List.take (acc.toList.length - (n - 1 - i)) acc.toList).toArray) := by
      show (List.take (acc.toList.length - (n - 1 - i)) acc.toList).toArray.size ≤ sizeLine
      rw [List.size_toArray, List.length_take]
      omega
    refine wpAny_bind (wpAny_newObj_type ?_ hsz)
    refine wpAny_pure ?_
    rw [eS, hal, ea, List.drop_drop]
    have q := hQ s2.heap s2.toks h0
    rw [show i + (items.size - i - (n - 1 - i)) = items.size - (n - 1 - i) by omega]
    exact q
open L2
/-- (a, .., *b, .., c) = a tuple: i names ahead of the star, n targets in all -/
def gStp (K : PySem.W.Frag) (i n : Nat) (t : TGs) : TG := fun v σ H Q => ∃ a xs, v = .ref a ∧ SqT K H a xs ∧ n ≤ xs.length + 1 ∧ ∀ p, H p = none → t (xs.take i ++ [.ref p] ++ xs.drop (xs.length - (n - 1 - i))) σ (L2.upd H p (.lst ((xs.drop i).take (xs.length - i - (n - 1 - i))))) Q
theorem pg_star {X : Cx} {es : List Expr} {k i n : Nat} {t : TGs} {pos : Pos} (hc : X.calm = true) (h : PGs X es t) (hn : (assignEach es X.env).length = n) (hst : (assignEach es X.env).findIdx? (·.1) = some i) (hin : i < n) : PG X (.Tuple es k pos) (gStp X.K i n t) := by
  constructor
  intro pins s σ H v u Q I r ⟨a, xs, e, hq, hl, q⟩
  subst e
  cases r
  obtain ⟨its, rv, ht, hz⟩ := I.tuple hq
  have hlen := rv.length
  rw [PyProof.Rows.assign_Tuple]
  refine wpAny_bind (wpAny_standAt ?_)
  unfold unpack
  rw [hn, hst]
  refine wpAny_bind (wpAny_holding (unpackItems_star (I.ok.hd hc) ht hin (by rw [List.size_toArray, ← hlen]; exact hl) (by rw [List.size_toArray, ← hlen]; exact hz) fun h2 tk hk => ?_))
  have I2 : Inv X pins σ H { s with heap := h2, toks := tk } := I.kept hk
  have hf : H h2.objs.size = none := I2.hok.fresh (Nat.le_refl _)
  have hsz : its.toArray.size = xs.length := by rw [List.size_toArray, ← hlen]
  rw [hsz]
  have I3 : Inv X pins σ (L2.upd H h2.objs.size (.lst ((xs.drop i).take (xs.length - i - (n - 1 - i))))) { s with heap := h2.push { cls := .type "list", data := .seq ((its.drop i).take (xs.length - i - (n - 1 - i))).toArray }, toks := tk } := by
    refine I2.laid (t' := tk) (fun b o e => Heap.get?_push_of_some _ e) (Nat.le_refl _) ?_
    refine ⟨?_, _, 0, (rv.drop i).take _, Heap.get?_push_size _ rfl⟩
    rw [List.length_take, List.length_drop]
    omega
  exact h.run pins _ σ _ _ _ Q I3 (((rv.take i).append (.cons (show L2.RelV (.ref h2.objs.size) (.ref h2.objs.size) from rfl) .nil)).append (rv.drop _)) (q _ hf)
/-- (a, .., *b, .., c) = a list: i names ahead of the star, n targets in all -/
def gStpL (K : PySem.W.Frag) (i n : Nat) (t : TGs) : TG := fun v σ H Q => ∃ a xs, v = .ref a ∧ SqL K H a xs ∧ n ≤ xs.length + 1 ∧ ∀ p, H p = none → t (xs.take i ++ [.ref p] ++ xs.drop (xs.length - (n - 1 - i))) σ (L2.upd H p (.lst ((xs.drop i).take (xs.length - i - (n - 1 - i))))) Q
theorem pg_starL {X : Cx} {es : List Expr} {k i n : Nat} {t : TGs} {pos : Pos} (hc : X.calm = true) (h : PGs X es t) (hn : (assignEach es X.env).length = n) (hst : (assignEach es X.env).findIdx? (·.1) = some i) (hin : i < n) : PG X (.Tuple es k pos) (gStpL X.K i n t) := by
  constructor
  intro pins s σ H v u Q I r ⟨a, xs, e, hq, hl, q⟩
  subst e
  cases r
  obtain ⟨its, rv, ht, hz⟩ := I.list hq
  have hlen := rv.length
  have hl0 : s.heap.IsList a its.toArray := by
    obtain ⟨o, m, e, c, d, q⟩ := ht
    exact ⟨o, e, c, m, q⟩
  rw [PyProof.Rows.assign_Tuple]
  refine wpAny_bind (wpAny_standAt ?_)
  unfold unpack
  rw [hn, hst]
  refine wpAny_bind (wpAny_holding (unpackItems_starL (I.ok.hd hc) hl0 hin (by rw [List.size_toArray, ← hlen]; exact hl) (by rw [List.size_toArray, ← hlen]; exact hz) fun h2 tk hk => ?_))
  have I2 : Inv X pins σ H { s with heap := h2, toks := tk } := I.kept hk
  have hf : H h2.objs.size = none := I2.hok.fresh (Nat.le_refl _)
  have hsz : its.toArray.size = xs.length := by rw [List.size_toArray, ← hlen]
  rw [hsz]
  have I3 : Inv X pins σ (L2.upd H h2.objs.size (.lst ((xs.drop i).take (xs.length - i - (n - 1 - i))))) { s with heap := h2.push { cls := .type "list", data := .seq ((its.drop i).take (xs.length - i - (n - 1 - i))).toArray }, toks := tk } := by
    refine I2.laid (t' := tk) (fun b o e => Heap.get?_push_of_some _ e) (Nat.le_refl _) ?_
    refine ⟨?_, _, 0, (rv.drop i).take _, Heap.get?_push_size _ rfl⟩
    rw [List.length_take, List.length_drop]
    omega
  exact h.run pins _ σ _ _ _ Q I3 (((rv.take i).append (.cons (show L2.RelV (.ref h2.objs.size) (.ref h2.objs.size) from rfl) .nil)).append (rv.drop _)) (q _ hf)
theorem pgs_star {X : Cx} {e : Expr} {es : List Expr} {p : Pos} {t : TG} {u : TGs} (hn : notStar e = true) (h1 : PG X e t) (h2 : PGs X es u) : PGs X (.Starred e p :: es) (gCons t u) := by
  have h := pgs_cons h1 h2 (by rw [each_cons hn]; rfl)
  constructor
  intro pins s σ H vs us Q I r q
  have := h.run pins s σ H vs us Q I r q
  rw [each_cons hn] at this
  exact this
section
variable {K : PySem.W.Frag} {H H0 : Hp} {O O0 : List Addr} {ρ ρ0 ρ1 : Rho} {σ σ0 : L2.St} {io L : List Nat}
/-- a new list is stored, seen from before it was made -/
theorem Gx.bindL (g : Gx K io L H0 O0 ρ0 σ0 H O ρ σ) {i : Nat} {mid : List PyData} {p : Addr} {ms : List V} (h : setS io i (.l mid) ρ = some ρ1) (h0 : H0 p = none) (no : ¬ Own ρ σ p) (hm : p ∈ O) (hp : H p = some (.lst ms)) (d : DqA K H O mid ms) :
    Gx K io (L ++ [i]) H0 O0 ρ0 σ0 H O ρ1 (σ.set i (some (.ref p))) := by
  obtain ⟨h1, h2, rfl⟩ := setS_some h
  refine ⟨g.st, g.rp.bind (r := .l mid) ⟨p, ms, rfl, hm, hp, d⟩ fun xs a _ e => by cases e; exact no, fun a ⟨j, xs, q, e⟩ => ?_, fun j hj => ?_, fun j hj hmm => ?_, by rw [List.length_set]; exact g.sl⟩
  · rw [gt_set] at q
    rw [List.getElem?_set] at e
    by_cases c : i = j ∧ i < ρ.length
    · rw [if_pos c.1, if_pos (by rw [← g.rp.len]; exact c.2)] at e
      cases e
      exact .inr h0
    · rw [if_neg c] at q
      have n : i ≠ j := fun z => c ⟨z, by rw [z]; exact gt_lt q⟩
      rw [if_neg n] at e
      exact g.own a ⟨j, xs, q, e⟩
  · rw [List.mem_append, not_or, List.mem_singleton] at hj
    rw [gt_set, if_neg fun c => hj.2 c.1.symm, List.getElem?_set, if_neg fun c => hj.2 c.symm]
    exact g.out j hj.1
  · rw [List.mem_append, List.mem_singleton] at hmm
    rcases hmm with hmm | rfl
    · exact g.io j hj hmm
    · exact h1 hj
end
def OkGm (X : Cx) (io : List Nat) (ts : CTs) (i : Nat) (us : CTs) (es : List Expr) : Prop := ∀ (ρ ρ1 ρ2 ρ' : Rho) (xs mid ys : List PyData), bindTs io ts xs ρ = some ρ1 → setS io i (.l mid) ρ1 = some ρ2 → bindTs io us ys ρ2 = some ρ' → xs.length = ts.len → ys.length = us.len →
  ∀ (L0 : List Nat) (H0 : Hp) (O0 : List Addr) (ρ0 : Rho) (σ0 σ : L2.St) (H : Hp) (O : List Addr) (vs ws : List V) (p : Addr) (ms : List V), Rp X.K H0 O0 ρ0 σ0 → Gx X.K io L0 H0 O0 ρ0 σ0 H O ρ σ → H0 p = none → ¬ Own ρ σ p → p ∈ O → H p = some (.lst ms) → DqA X.K H O mid ms → DqA X.K H O xs vs → DqA X.K H O ys ws →
  ∀ Q : L2.St → Hp → Prop, (∀ σ' H' O', Gx X.K io (L0 ++ (ts.sl ++ i :: us.sl)) H0 O0 ρ0 σ0 H' O' ρ' σ' → Q σ' H') → twgs X es (vs ++ .ref p :: ws) σ H Q
section
variable {X : Cx} {io : List Nat} {e : Expr} {es : List Expr} {pos : Pos}
theorem okGm_star {i : Nat} {x : Str} {px p0 : Pos} {us : CTs} (hN : X.N.Nodup) (hi : X.N[i]? = some x) (hx : L2.Loc X.env.scope x) (hf : X.fn x = true ∨ X.env.scope.names.lookup x = some .local) (h : OkGs X io us es) : OkGm X io .nil i us (.Starred (.Name x px) p0 :: es) := by
  intro ρ ρ1 ρ2 ρ' xs mid ys b1 b2 b3 l1 l2 L0 H0 O0 ρ0 σ0 σ H O vs ws p ms rp0 g h0 no hm hp d dx dy Q q
  rw [bindTs] at b1
  cases b1
  cases dx with
  | cons _ _ => cases l1
  | nil =>
    refine of_pgs (pgs_star rfl (pg_name hN hi hx hf) pgs_wp) ⟨_, _, rfl, ?_⟩
    have g2 := g.bindL b2 h0 no hm hp d
    refine h ρ2 ρ' ys b3 l2 _ H O ws g2.rp dy _ fun σ3 H3 O3 g3 => q σ3 H3 O3 ?_
    have := g2.trans rp0 g3
    rw [CTs.sl, List.nil_append]
    rw [List.append_assoc] at this
    exact this
theorem okGm_cons {t : CT} {ts us : CTs} {i : Nat} (hn : notStar e = true) (h : OkGd X io t e) (hs : OkGm X io ts i us es) : OkGm X io (.cons t ts) i us (e :: es) := by
  intro ρ ρ1 ρ2 ρ' xs mid ys b1 b2 b3 l1 l2 L0 H0 O0 ρ0 σ0 σ H O vs ws p ms rp0 g h0 no hm hp d dx dy Q q
  cases dx with
  | nil => cases l1
  | cons d0 ds =>
    rw [bindTs] at b1
    obtain ⟨ρa, b4, b5⟩ := Option.bind_eq_some_iff.mp b1
    refine of_pgs (pgs_cons pg_wp pgs_wp (by rw [each_cons hn]; rfl)) ⟨_, _, rfl, ?_⟩
    refine h ρ ρa _ b4 σ H O _ g.rp d0 _ fun σ1 H1 O1 g1 => ?_
    have ex := g1.ext
    refine hs ρa ρ1 ρ2 ρ' _ mid ys b5 b2 b3 (by simpa [CTs.len] using l1) l2 (L0 ++ t.sl) H0 O0 ρ0 σ0 σ1 H1 O1 _ ws p ms rp0 (g.trans rp0 g1) h0 (fun z => (g1.own p z).elim no fun z => (by rw [hp] at z; cases z)) (g1.st.pend p hm fun z => z) (g1.st.keep p _ hp fun z => z)
      (DqA.ext g.rp.dom ex d) (DqA.ext g.rp.dom ex ds) (DqA.ext g.rp.dom ex dy) Q fun σ' H' O' g' => q σ' H' O' ?_
    rw [CTs.sl, List.append_assoc]
    rw [List.append_assoc] at g'
    exact g'
theorem okG_stp {pr : Bool} {ts us : CTs} {i k : Nat} (hc : X.calm = true) (hlen : (assignEach es X.env).length = ts.len + us.len + 1) (hst : (assignEach es X.env).findIdx? (·.1) = some ts.len) (h : OkGm X io ts i us es) : OkG X pr io (.stp ts i us) (.Tuple es k pos) := by
  intro ρ ρ' x hv σ H O v rp y Q q
  cases x with
  | tuple xs =>
    rw [bindT] at hv
    split at hv
    · rename_i hl
      obtain ⟨ρ1, b1, hv⟩ := Option.bind_eq_some_iff.mp hv
      obtain ⟨ρ2, b2, b3⟩ := Option.bind_eq_some_iff.mp hv
      obtain ⟨a, vs, rfl, sq, d⟩ := y.tup
      have dl := d.length
      refine of_pg (pg_star hc pgs_wp hlen hst (by omega)) ⟨a, vs, rfl, sq, by omega, fun p hp => ?_⟩
      have e1 : ts.len + us.len + 1 - 1 - ts.len = us.len := by omega
      rw [e1, List.append_assoc]
      have g0 : Gx X.K io [] H O ρ σ (L2.upd H p (.lst ((vs.drop ts.len).take (vs.length - ts.len - us.len)))) (p :: O) ρ σ := by
        refine ⟨Stp.newO hp, rp.step (Stp.newO hp) (fun _ (z : False) => False.elim z) ((rp.dom.new hp).cons upd_same rfl), fun _ z => .inl z, fun _ _ => ⟨rfl, rfl⟩, fun _ _ z => (by cases z), rfl⟩
      have ex := g0.ext
      have d' := DqA.ext rp.dom ex d
      refine h ρ ρ1 ρ2 ρ' _ _ _ b1 b2 b3 (by rw [List.length_take]; omega) (by rw [List.length_drop]; omega) [] H O ρ σ σ _ (p :: O) _ _ p _ rp g0 hp (fun z => rp.own_dom z hp) List.mem_cons_self upd_same ?_ (d'.take _) ?_ Q fun σ' H' O' g => q σ' H' O' (by rw [CT.sl]; exact g)
      · rw [dl]
        exact (d'.drop _).take _
      · rw [dl]
        exact d'.drop _
    · cases hv
  | list xs =>
    rw [bindT] at hv
    split at hv
    · rename_i hl
      obtain ⟨ρ1, b1, hv⟩ := Option.bind_eq_some_iff.mp hv
      obtain ⟨ρ2, b2, b3⟩ := Option.bind_eq_some_iff.mp hv
      have y' : Dq X.K H O (.list xs) v := y.resolve_right fun z => by
        obtain ⟨_, _, _, _, _, _, e, _⟩ := z
        cases e
      obtain ⟨a, vs, rfl, sq, d⟩ : ∃ a vs, v = .ref a ∧ SqL X.K H a vs ∧ DqA X.K H O xs vs := by
        cases y' with
        | lst ha _ d => exact ⟨_, _, rfl, SqL.of ha, d⟩
      have dl := d.length
      refine of_pg (pg_starL hc pgs_wp hlen hst (by omega)) ⟨a, vs, rfl, sq, by omega, fun p hp => ?_⟩
      have e1 : ts.len + us.len + 1 - 1 - ts.len = us.len := by omega
      rw [e1, List.append_assoc]
      have g0 : Gx X.K io [] H O ρ σ (L2.upd H p (.lst ((vs.drop ts.len).take (vs.length - ts.len - us.len)))) (p :: O) ρ σ := by
        refine ⟨Stp.newO hp, rp.step (Stp.newO hp) (fun _ (z : False) => False.elim z) ((rp.dom.new hp).cons upd_same rfl), fun _ z => .inl z, fun _ _ => ⟨rfl, rfl⟩, fun _ _ z => (by cases z), rfl⟩
      have ex := g0.ext
      have d' := DqA.ext rp.dom ex d
      refine h ρ ρ1 ρ2 ρ' _ _ _ b1 b2 b3 (by rw [List.length_take]; omega) (by rw [List.length_drop]; omega) [] H O ρ σ σ _ (p :: O) _ _ p _ rp g0 hp (fun z => rp.own_dom z hp) List.mem_cons_self upd_same ?_ (d'.take _) ?_ Q fun σ' H' O' g => q σ' H' O' (by rw [CT.sl]; exact g)
      · rw [dl]
        exact (d'.drop _).take _
      · rw [dl]
        exact d'.drop _
    · cases hv
  | _ => rw [bindT] at hv <;> first | cases hv | (intros; contradiction)
end
end DI

/-! DI14: defs. -/
namespace DI
open PySem L2 PySem.Spec PyProof.Rows
section
variable {K : PySem.W.Frag} {H H' : Hp} {O O' : List Addr} {ρ' : Rho} {σ' : L2.St} {io : List Nat} {args outs : List R} {vs : List V}
theorem gt_app : ∀ (as : List R) (k i : Nat), gt (as.map some ++ List.replicate k none) i = as[i]?
  | [], k, i => by
    rw [gt_eq]
    simp only [List.map_nil, List.nil_append, List.getElem?_nil, List.getElem?_replicate]
    split <;> rfl
  | a :: as, k, 0 => rfl
  | a :: as, k, i + 1 => by
    rw [List.map_cons, List.cons_append, gt, gt_app as k i, List.getElem?_cons_succ]
theorem start_get {N : List Str} {vs : List V} {i : Nat} {v : V} (h : vs[i]? = some v) : (L2.start N vs)[i]? = some (some v) := by
  have hi := (List.getElem?_eq_some_iff.mp h).1
  unfold L2.start
  rw [List.getElem?_append_left (by simpa using hi), List.getElem?_map, h]
  rfl
theorem get_start {N : List Str} {vs : List V} {i : Nat} {v : V} (h : (L2.start N vs)[i]? = some (some v)) : vs[i]? = some v := by
  unfold L2.start at h
  by_cases hi : i < vs.length
  · rw [List.getElem?_append_left (by simpa using hi)] at h
    exact get_map_some h
  · rw [List.getElem?_append_right (by simpa using hi), List.getElem?_replicate] at h
    split at h <;> cases h
theorem rp_start {N : List Str} {n : Nat} (rp : Rp K H O (args.map some) (vs.map some)) (hn : args.length ≤ n) (hN : N.length = n) : Rp K H O (args.map some ++ List.replicate (n - args.length) none) (L2.start N vs) where
  len := by
    have h := rp.len
    rw [List.length_map, List.length_map] at h
    unfold L2.start
    rw [List.length_append, List.length_map, List.length_replicate, List.length_append, List.length_map, List.length_replicate]
    omega
  slot := fun i r h => by
    rw [gt_app] at h
    obtain ⟨v, h1, h2⟩ := rp.slot i r (by rw [gt_map]; exact h)
    exact ⟨v, start_get (get_map_some h1), h2⟩
  apart := fun i j xs ys a h1 h2 e1 e2 => by
    rw [gt_app] at h1 h2
    have f : ∀ {i : Nat} {v : V}, (L2.start N vs)[i]? = some (some v) → (vs.map some)[i]? = some (some v) := fun h => by rw [List.getElem?_map, get_start h]; rfl
    exact rp.apart i j xs ys a (by rw [gt_map]; exact h1) (by rw [gt_map]; exact h2) (f e1) (f e2)
  dom := rp.dom
theorem own_start {N : List Str} {k : Nat} {a : Addr} (h : Own (args.map some ++ List.replicate k none) (L2.start N vs) a) : Own (args.map some) (vs.map some) a := by
  obtain ⟨i, xs, h1, h2⟩ := h
  rw [gt_app] at h1
  exact ⟨i, xs, by rw [gt_map]; exact h1, by rw [List.getElem?_map, get_start h2]; rfl⟩
theorem lent_io : ∀ {as : List R} {k i : Nat} {xs : List PyData}, lentR io k as = true → as[i]? = some (.l xs) → k + i ∈ io
  | [], k, i, xs, _, e => by simp at e
  | a :: as, k, 0, xs, h, e => by
    simp only [List.getElem?_cons_zero, Option.some.injEq] at e
    subst e
    unfold lentR at h
    rw [Bool.and_eq_true] at h
    exact of_decide_eq_true h.1
  | a :: as, k, i + 1, xs, h, e => by
    have h' : lentR io (k + 1) as = true := by
      cases a with
      | l ys =>
        unfold lentR at h
        rw [Bool.and_eq_true] at h
        exact h.2
      | d x => unfold lentR at h; exact h
      | s x => unfold lentR at h; exact h
      | k x => unfold lentR at h; exact h
    have := lent_io (k := k + 1) (i := i) h' (by simpa using e)
    rw [show k + (i + 1) = k + 1 + i by omega]
    exact this
theorem outR_len : ∀ {as : List R} {k : Nat} {os : List R}, outR io ρ' k as = some os → os.length = as.length
  | [], k, os, h => by cases h; rfl
  | a :: as, k, os, h => by
    obtain ⟨r, h1, h⟩ := Option.bind_eq_some_iff.mp (show ((if k ∈ io then gt ρ' k else some a).bind fun r => (outR io ρ' (k + 1) as).map (r :: ·)) = some os from h)
    obtain ⟨rs, h2, rfl⟩ := Option.map_eq_some_iff.mp h
    simp [outR_len h2]
theorem outR_get : ∀ {as : List R} {k i : Nat} {os : List R} {r : R}, outR io ρ' k as = some os → os[i]? = some r → (k + i ∈ io ∧ gt ρ' (k + i) = some r) ∨ (k + i ∉ io ∧ as[i]? = some r)
  | [], k, i, os, r, h, e => by cases h; simp at e
  | a :: as, k, i, os, r, h, e => by
    obtain ⟨r1, h1, h⟩ := Option.bind_eq_some_iff.mp (show ((if k ∈ io then gt ρ' k else some a).bind fun r => (outR io ρ' (k + 1) as).map (r :: ·)) = some os from h)
    obtain ⟨rs, h2, rfl⟩ := Option.map_eq_some_iff.mp h
    cases i with
    | zero =>
      simp only [List.getElem?_cons_zero, Option.some.injEq] at e
      subst e
      split at h1
      · rename_i m
        exact .inl ⟨m, h1⟩
      · rename_i m
        exact .inr ⟨m, by simpa using h1⟩
    | succ i =>
      have := outR_get h2 (show rs[i]? = some r by simpa using e)
      rw [show k + 1 + i = k + (i + 1) by omega] at this
      simpa using this
/-- a def's end -/
theorem fin_nx {N : List Str} {k : Nat} (rp : Rp K H O (args.map some) (vs.map some)) (le : lentR io 0 args = true) (x : Sx K io H O (args.map some ++ List.replicate k none) (L2.start N vs) H' O' ρ' σ') (ho : outR io ρ' 0 args = some outs) :
    Nx K H O (args.map some) (vs.map some) H' O' (outs.map some) := by
  have hvs : args.length = vs.length := by
    have := rp.len
    rwa [List.length_map, List.length_map] at this
  have hst : ∀ i v, i ∈ io → vs[i]? = some v → σ'[i]? = some (some v) := fun i v hi hv => by rw [(x.io i hi).1]; exact start_get hv
  have atv : ∀ i r, outs[i]? = some r → ∃ v, vs[i]? = some v := fun i r h => by
    have hi := (List.getElem?_eq_some_iff.mp h).1
    rw [outR_len ho, hvs] at hi
    exact ⟨_, List.getElem?_eq_getElem hi⟩
  have isl : ∀ i xs, outs[i]? = some (.l xs) → i ∈ io ∧ gt ρ' i = some (.l xs) := fun i xs h => by
    have := outR_get ho h
    rw [Nat.zero_add] at this
    rcases this with h | ⟨h1, h2⟩
    · exact h
    · have := lent_io le h2
      rw [Nat.zero_add] at this
      exact (h1 this).elim
  have st : Stp H O (Own (args.map some) (vs.map some)) H' O' := x.st.wide fun a h => own_start h
  refine ⟨st, ⟨?_, fun i r h => ?_, fun i j xs ys a h1 h2 e1 e2 => ?_, x.rp.dom⟩, fun i xs h => ?_⟩
  · rw [List.length_map, List.length_map, outR_len ho, hvs]
  · rw [gt_map] at h
    obtain ⟨v, hv⟩ := atv i r h
    refine ⟨v, by rw [List.getElem?_map, hv]; rfl, ?_⟩
    have := outR_get ho h
    rw [Nat.zero_add] at this
    rcases this with ⟨h1, h2⟩ | ⟨h1, h2⟩
    · obtain ⟨v', e, hr⟩ := x.rp.slot i r h2
      rw [hst i v h1 hv] at e
      cases e
      exact hr
    · obtain ⟨v', e, hr⟩ := rp.slot_step st (fun a z => rp.own_mem z) (i := i) (q := r) (by rw [gt_map]; exact h2) fun a ha ⟨xs, e⟩ z => by
        subst e
        have := lent_io le h2
        rw [Nat.zero_add] at this
        exact h1 this
      rw [List.getElem?_map, hv] at e
      cases e
      exact hr
  · rw [gt_map] at h1 h2
    obtain ⟨i1, g1⟩ := isl i xs h1
    obtain ⟨j1, g2⟩ := isl j ys h2
    exact x.rp.apart i j xs ys a g1 g2 (hst i _ i1 (get_map_some e1)) (hst j _ j1 (get_map_some e2))
  · rw [gt_map] at h
    obtain ⟨i1, g1⟩ := isl i xs h
    obtain ⟨ys, h⟩ := (x.io i i1).2 xs g1
    rw [gt_app] at h
    exact ⟨ys, by rw [gt_map]; exact h⟩
theorem fin_rs {N : List Str} {k : Nat} {r : R} {v : V} (rp : Rp K H O (args.map some) (vs.map some)) (le : lentR io 0 args = true) (x : Sx K io H O (args.map some ++ List.replicate k none) (L2.start N vs) H' O' ρ' σ') (ho : outR io ρ' 0 args = some outs)
    (h : RsX K io H H' O' ρ' σ' r v) : RsT K H H' O' r v := by
  cases r with
  | d y => exact h
  | s xs => exact h
  | k ds => exact h
  | l xs =>
    obtain ⟨a, ws, rfl, m, ha, d, hn⟩ := h
    refine ⟨a, ws, rfl, m, ?_, ha, d⟩
    rcases hn with hn | ⟨i, hi, g, hs, hts⟩
    · exact hn
    · rcases x.own a ⟨i, xs, g, hs⟩ with z | z
      · exfalso
        obtain ⟨j, ys, h1, h2⟩ := own_start z
        rw [gt_map] at h1
        have hj := lent_io le h1
        rw [Nat.zero_add] at hj
        have hv := get_map_some h2
        have hsj : σ'[j]? = some (some (.ref a)) := by rw [(x.io j hj).1]; exact start_get hv
        -- the slot there
        have hjl : j < outs.length := by
          rw [outR_len ho]
          exact (List.getElem?_eq_some_iff.mp h1).1
        have := outR_get ho (List.getElem?_eq_getElem hjl)
        rw [Nat.zero_add] at this
        rcases this with ⟨_, hg⟩ | ⟨h1, _⟩
        · have hnt := (List.all_eq_true.mp hts) j hj
          rw [hg] at hnt
          obtain ⟨v', e, hr⟩ := x.rp.slot j _ hg
          rw [hsj] at e
          cases e
          generalize outs[j] = q at hg hnt hr
          cases q with
          | s zs => cases hnt
          | k zs =>
            obtain ⟨b, kvs, eb, _, hb, _⟩ := hr
            cases eb
            rw [ha] at hb
            cases hb
          | l zs =>
            have := x.rp.apart i j _ _ a g hg hs hsj
            subst this
            exact hi hj
          | d y =>
            cases hr with
            | lst h3 h4 h5 => exact h4 m
            | tup h3 h4 => cases hnt
        · exact h1 hj
      · exact z
end
section
variable {P : Program} {w : World} {K : PySem.W.Frag} {mg : Str → Option Value} {base : Heap} {k wf : Nat} {f : Addr} {name qual : Str} {params : Arguments} {body : List Stmt} {scope : Scope} {dV kV doc pm cdv ct oc : Value} {an od : Option Addr} {osl : Array (Option Value)} {N ps : List Str} {Φ : Phi} {fd : FD}
/-- a def keeps its promise, by its body -/
theorem fnG_of (lk : K.lookup f = some ⟨oc, od, .func (PySem.W.fnOf name qual params body scope dV kV doc pm an cdv ct), osl⟩) (hcd : PySem.W.codeIn K cdv qual = true) (S : FnScope N ps scope) (hnp : fd.np = ps.length) (hnN : fd.n = N.length)
    (hbody : ∀ (A : Around) (outer : List PySem.Env) (s : Shared) (H : Hp), Room k (A.deeper (envOfC qual scope s.heap.objs.size f cdv)) → A.guards = some [] → OkSs (cxOf noX P w K mg base N qual scope f cdv A outer s H noE) Φ wf fd.io fd.body body) :
    FnG P w K mg base (k + 1) f (PySem.W.fnOf name qual params body scope dV kV doc pm an cdv ct) ps (spG K (runF Φ wf fd)) := by
  have len : ∀ vs H Q, spG K (runF Φ wf fd) vs H Q → vs.length = ps.length := fun vs H Q ⟨args, r, outs, O, h, rp, _⟩ => by
    unfold runF at h
    split at h
    · rename_i hc
      have := rp.len
      rw [List.length_map, List.length_map] at this
      rw [← this, hc.1, hnp]
    · cases h
  constructor
  · exact len
  intro A outer s H args us vs Q hr hgd e0 hb r hsp
  have hl := len _ _ _ hsp
  have KX : K.In s.heap := e0.mod.kin.keeps fun b o e => (e0.bs b o e).1
  have lim : s.heap.NoLimit := e0.mod.nolimit.keeps fun b o e => (e0.bs b o e).1
  have hkind : ∀ y ∈ ps.zip us, scope.names.lookup y.1 = some .local ∨ (scope.names.lookup y.1 = some .cell ∧ ((cellsFrom (s.heap.objs.size + 1) scope.names []).lookup y.1).isSome = true) := by
    intro ⟨n, v⟩ hy
    rcases S.par n (List.of_mem_zip hy).1 with q | q
    · left; exact q
    · right; exact ⟨q, PySem.W.cellsFrom_some _ _ _ (.inl q)⟩
  obtain ⟨as, rr, outs, O, hrun, rp, post⟩ := hsp
  unfold runF at hrun
  split at hrun
  rotate_left
  · cases hrun
  rename_i hc
  obtain ⟨⟨fl, ρ'⟩, hex, hrun⟩ := Option.bind_eq_some_iff.mp hrun
  obtain ⟨r0, hret, hrun⟩ := Option.bind_eq_some_iff.mp hrun
  obtain ⟨os, hout, e⟩ := Option.map_eq_some_iff.mp hrun
  cases e
  refine codeAny_call_function hr.depth (KX _ _ lk) rfl S.co S.gen rfl (PySem.W.codeRec_of KX hcd) (hb _ _ _ _ ?_)
  refine wpAny_newFunctionEnv_cells S.kind hkind fun env he s1 x => ?_
  subst he
  refine ⟨lim.keeps x.toInCall.keep, codeAny_func ?_⟩
  have rp0 : Rp K H O (as.map some ++ List.replicate (fd.n - fd.np) none) (L2.start N vs) := by
    have := rp_start (n := fd.n) rp (by rw [hc.1]; exact hc.2.1) hnN.symm
    rw [hc.1] at this
    exact this
  have I : Inv (cxOf noX P w K mg base N qual scope f cdv A outer s H noE) [] (L2.start N vs) H s1 := inv_start S hr.hd e0 hl r x
  have ht := hbody A outer s H (hr.deeper _) hgd _ fl ρ' hex (L2.start N vs) H O rp0 { nx := fun _ H' => Q .non H', rt := Q } fun σ' H' O' sx => by
    have nx := fin_nx rp hc.2.2 sx hout
    cases fl with
    | nx => cases hret; exact post .non H' O' nx Dq.non
    | rt r1 =>
      cases hret
      intro v hv
      exact post v H' O' nx (fin_rs rp hc.2.2 sx hout hv)
    | bk => cases hret
    | ct => cases hret
  refine wpAny_mono (ht [] s1 I) (fun fl s' hs => ?_) fun e s' hs => hs
  cases fl with
  | ret u =>
    obtain ⟨v, σ', H', J, rv, q⟩ := hs
    exact ⟨v, H', J.os, J.bare, J.base, J.hok, rv, q⟩
  | next =>
    obtain ⟨σ', H', J, q⟩ := hs
    exact ⟨V.non, H', J.os, J.bare, J.base, J.hok, rfl, q⟩
  | brk =>
    obtain ⟨_, _, _, q⟩ := hs
    exact False.elim q
  | cont =>
    obtain ⟨_, _, _, q⟩ := hs
    exact False.elim q
end
end DI

/-! DIK: calls by keywords, defaults of keyword-only parameters. -/
namespace DI
open PySem L2
/-- the names of the keywords, all of them plain -/
def kwNs : List Keyword → Option (List Str)
  | [] => some []
  | ⟨some n, _, _⟩ :: r => (kwNs r).map (n :: ·)
  | ⟨none, _, _⟩ :: _ => none
theorem kw_all {env : PySem.Env} {pos : Pos} : ∀ {kws : List Keyword} {ks : List Str}, kwNs kws = some ks →
    (backToKw pos (keywordEach kws env)).all (·.1.isSome) = true ∧ (backToKw pos (keywordEach kws env)).filterMap (·.1) = ks ∧ (backToKw pos (keywordEach kws env)).any (·.1.isNone) = false
  | [], _, h => by cases h; exact ⟨rfl, rfl, rfl⟩
  | ⟨some n, e, p⟩ :: r, ks, h => by
    rw [kwNs] at h
    obtain ⟨ks', h1, rfl⟩ := Option.map_eq_some_iff.mp h
    obtain ⟨a, b, c⟩ := kw_all (env := env) (pos := pos) h1
    unfold backToKw at a b c ⊢
    rw [keywordEach, List.map_cons, List.all_cons, List.any_cons, List.filterMap_cons]
    exact ⟨by rw [a]; rfl, by simp only; rw [b], by rw [c]; rfl⟩
  | ⟨none, _, _⟩ :: _, _, h => by cases h
section
variable (X : Cx)
def twk (kws : List Keyword) : TA := fun σ H Q => ∀ (pos : Pos) (pins : List (Addr × Obj)) (s : Shared), Inv X pins σ H s → wpAny (model X.prog X.w) X.A (evalAll ((backToKw pos (keywordEach kws X.env)).map (·.2))) (AP X pins σ Q) X.xe s
variable {X} {Φ : Phi}
theorem pk_wp {kws : List Keyword} : PK X kws (twk X kws) := ⟨fun pos pins s _ _ _ I h => h pos pins s I⟩
theorem of_pk {kws : List Keyword} {t : TA} {σ : L2.St} {H : Hp} {Q : List V → Hp → Prop} (h : PK X kws t) (q : t σ H Q) : twk X kws σ H Q := fun pos pins s I => h.run pos pins s σ H Q I q
variable (X) (Φ)
def OkK (io : List Bool) (cs : CEs) (es : List Keyword) : Prop := ∀ (ρ : Rho) (as : List Arg) (ρ' : Rho), eva Φ io cs ρ = some (as, ρ') → ∀ (σ : L2.St) (H : Hp) (O : List Addr), Rp X.K H O ρ σ → ∀ Q : List V → Hp → Prop,
  (∀ vs H' O', Nx X.K H O ρ σ H' O' ρ' → PdA X.K H H' O' σ as vs → Q vs H') → twk X es σ H Q
variable {X} {Φ}
variable {c : CE} {cs : CEs} {e : Expr} {es : List Expr} {kws : List Keyword} {nm : Option Str} {p pos kpos : Pos}
theorem okK_nil {io : List Bool} : OkK X Φ io .nil [] := by
  intro ρ ds ρ' hv σ H O rp Q q
  have hv' : some (([] : List Arg), ρ) = some (ds, ρ') := by
    cases io <;> (rw [eva] at hv; exact hv)
  cases hv'
  exact of_pk pk_nil (q [] H O (Nx.refl rp) .nil)
theorem okK_cons {k : Bool} {io : List Bool} (h : OkE X Φ c e) (hB : OkB X Φ c e) (ht : OkK X Φ io cs kws) : OkK X Φ (k :: io) (.cons c cs) (⟨nm, e, kpos⟩ :: kws) := by
  intro ρ ds ρ' hv σ H O rp Q q
  rw [eva] at hv
  obtain ⟨⟨y, ρ1⟩, h1, hv⟩ := Option.bind_eq_some_iff.mp hv
  obtain ⟨⟨as, ρ2⟩, h3, e2⟩ := Option.map_eq_some_iff.mp hv
  cases e2
  refine of_pk (pk_cons pe_wp pk_wp) ?_
  have key : ∀ v H1 O1, Nx X.K H O ρ σ H1 O1 ρ1 → RsA X.K H H1 O1 σ y v → twk X kws σ H1 (fun xs H2 => Q (v :: xs) H2) := fun v H1 O1 n1 r1 => by
    refine ht ρ1 as _ h3 σ H1 O1 n1.rp _ fun vs H2 O2 n2 r2 => ?_
    exact q _ H2 O2 (n1.trans rp n2) (pd_cons rp n1 r1 n2 r2)
  cases k with
  | true =>
    rw [if_pos rfl] at h1
    exact hB ρ y ρ1 h1 σ H O rp _ key
  | false =>
    rw [if_neg Bool.false_ne_true] at h1
    obtain ⟨⟨r, ρ3⟩, h4, e3⟩ := Option.map_eq_some_iff.mp h1
    cases e3
    exact okF h h4 rp key
end
/-! ### lengths -/
def CEs.len : CEs → Nat
  | .nil => 0
  | .cons _ r => r.len + 1
theorem eva_len {Φ : Phi} : ∀ {cs : CEs} {io : List Bool} {ρ ρ' : Rho} {as : List Arg}, eva Φ io cs ρ = some (as, ρ') → as.length = cs.len
  | .nil, io, ρ, ρ', as, h => by
    have h' : some (([] : List Arg), ρ) = some (as, ρ') := by cases io <;> (rw [eva] at h; exact h)
    cases h'
    rfl
  | .cons e r, [], ρ, ρ', as, h => by
    rw [eva] at h
    obtain ⟨⟨y, ρ1⟩, h1, h⟩ := Option.bind_eq_some_iff.mp h
    obtain ⟨⟨as', ρ2⟩, h3, e2⟩ := Option.map_eq_some_iff.mp h
    cases e2
    rw [List.length_cons, eva_len h3, CEs.len]
  | .cons e r, k :: io, ρ, ρ', as, h => by
    rw [eva] at h
    obtain ⟨⟨y, ρ1⟩, h1, h⟩ := Option.bind_eq_some_iff.mp h
    obtain ⟨⟨as', ρ2⟩, h3, e2⟩ := Option.map_eq_some_iff.mp h
    cases e2
    rw [List.length_cons, eva_len h3, CEs.len]
/-! ### defaults -/
/-- a flat datum's value -/
def dV : PyData → V
  | .none => .non
  | .bool b => .bl b
  | .int i => .int i
  | .str x => .str x
  | _ => .non
theorem dV_ok {K : PySem.W.Frag} {H : Hp} {O : List Addr} : ∀ {d : PyData}, flatD d = true → Dq K H O d (dV d)
  | .none, _ => .non
  | .bool _, _ => .bl _
  | .int _, _ => .int _
  | .str _, _ => .str _
abbrev Ord := List (Option Nat × PyData)
def pickV : Ord → List V → List V
  | [], _ => []
  | (some i, _) :: r, vs => vs.getD i .non :: pickV r vs
  | (none, d) :: r, vs => dV d :: pickV r vs
def pickU : Ord → List Value → List Value → List Value
  | [], _, _ => []
  | (some i, _) :: r, us, ms => us.getD i .none :: pickU r us ms
  | (none, _) :: r, us, m :: ms => m :: pickU r us ms
  | (none, _) :: r, us, [] => .none :: pickU r us []
def msV : Ord → List V
  | [] => []
  | (some _, _) :: r => msV r
  | (none, d) :: r => dV d :: msV r
theorem getD_rel : ∀ {vs : List V} {us : List Value}, Vals vs us → ∀ i : Nat, RelV (vs.getD i .non) (us.getD i .none)
  | _, _, .nil, i => by simp [RelV]
  | _, _, .cons h _, 0 => by simpa using h
  | _, _, .cons _ t, i + 1 => by simpa using getD_rel t i
theorem pick_rel {vs : List V} {us : List Value} (h : Vals vs us) : ∀ (ord : Ord) {ms : List Value}, Vals (msV ord) ms → Vals (pickV ord vs) (pickU ord us ms)
  | [], _, _ => .nil
  | (some i, _) :: r, ms, q => .cons (getD_rel h i) (pick_rel h r (show Vals (msV r) ms from q))
  | (none, d) :: r, ms, q => by
    have q' : Vals (dV d :: msV r) ms := q
    cases q' with
    | cons h1 h2 => exact .cons h1 (pick_rel h r h2)
section
variable {K : PySem.W.Frag} {H H0 H1 H2 : Hp} {O O1 O2 : List Addr} {ρ ρ1 ρ2 : Rho} {σ : L2.St}
theorem pd_app {as2 : List Arg} {zs : List V} (rp : Rp K H O ρ σ) (n1 : Nx K H O ρ σ H1 O1 ρ1) (n2 : Nx K H1 O1 ρ1 σ H2 O2 ρ2) (r2 : PdA K H1 H2 O2 σ as2 zs) : ∀ {as1 : List Arg} {vs : List V}, PdA K H H1 O1 σ as1 vs → PdA K H H2 O2 σ (as1 ++ as2) (vs ++ zs)
  | _, _, .nil => r2.from fun a z => n1.base z
  | _, _, .cons (a := a) (v := v) (as := as) (vs := vs) h q t => by
    refine .cons (h.nx n1.rp (n1.nown rp) n2) (fun p m e1 ⟨xs, e2⟩ e3 => ?_) (pd_app rp n1 n2 r2 t)
    rw [show (as.append as2).zip (vs.append zs) = as.zip vs ++ as2.zip zs from List.zip_append t.length] at m
    rcases List.mem_append.mp m with m | m
    · exact q p m e1 ⟨xs, e2⟩ e3
    · subst e2
      obtain ⟨a, ha, hn⟩ := r2.tmp_none p m e1
      obtain ⟨b, ws, rfl, _, _, hb, _⟩ := h
      rw [ha] at e3
      cases e3
      rw [hb] at hn
      cases hn
theorem pick_mem {as : List Arg} {vs : List V} (hl : as.length = vs.length) : ∀ {ord : Ord} {as' : List Arg}, pick as ord = some as' → ∀ p ∈ as'.zip (pickV ord vs), (∃ xs, p.1 = .v (.l xs)) → ∃ j ∈ ord.filterMap (·.1), as[j]? = some p.1 ∧ vs[j]? = some p.2
  | [], as', h, p, m, e => by
    rw [pickV, List.zip_nil_right] at m
    cases m
  | (some i, d) :: r, as', h, p, m, e => by
    rw [pick] at h
    obtain ⟨a, h1, h⟩ := Option.bind_eq_some_iff.mp h
    obtain ⟨as'', h2, rfl⟩ := Option.map_eq_some_iff.mp h
    rw [pickV, List.zip_cons_cons] at m
    rw [List.filterMap_cons]
    simp only
    rcases List.mem_cons.mp m with rfl | m
    · refine ⟨i, List.mem_cons_self, h1, ?_⟩
      have hi : i < vs.length := by rw [← hl]; exact (List.getElem?_eq_some_iff.mp h1).1
      simp [List.getD_eq_getElem?_getD, List.getElem?_eq_getElem hi]
    · obtain ⟨j, q1, q2⟩ := pick_mem hl h2 p m e
      exact ⟨j, List.mem_cons_of_mem _ q1, q2⟩
  | (none, d) :: r, as', h, p, m, e => by
    rw [pick] at h
    obtain ⟨as'', h2, rfl⟩ := Option.map_eq_some_iff.mp h
    rw [pickV, List.zip_cons_cons] at m
    rw [List.filterMap_cons]
    simp only
    rcases List.mem_cons.mp m with rfl | m
    · obtain ⟨xs, e⟩ := e
      cases e
    · exact pick_mem hl h2 p m e
theorem pick_pd {as : List Arg} {vs : List V} (pd : PdA K H0 H O σ as vs) : ∀ {ord : Ord} {as' : List Arg}, pick as ord = some as' → (ord.filterMap (·.1)).Nodup → (ord.all fun o => o.1.isSome || flatD o.2) = true → PdA K H0 H O σ as' (pickV ord vs)
  | [], as', h, _, _ => by cases h; exact .nil
  | (some i, d) :: r, as', h, nd, fl => by
    rw [pick] at h
    obtain ⟨a, h1, h⟩ := Option.bind_eq_some_iff.mp h
    obtain ⟨as'', h2, rfl⟩ := Option.map_eq_some_iff.mp h
    rw [List.filterMap_cons] at nd
    simp only at nd
    rw [List.nodup_cons] at nd
    rw [List.all_cons, Bool.and_eq_true] at fl
    obtain ⟨v, hv, hr⟩ := pd.get h1
    have ev : vs.getD i .non = v := by simp [List.getD_eq_getElem?_getD, hv]
    rw [pickV, ev]
    refine .cons hr (fun p m ⟨ys, e1⟩ ⟨xs, e2⟩ e3 => ?_) (pick_pd pd h2 nd.2 fl.2)
    obtain ⟨j, q1, q2, q3⟩ := pick_mem pd.length h2 p m ⟨ys, e1⟩
    rw [e1] at q2
    rw [e2] at h1
    rw [e3] at q3
    have := pd.two q2 h1 q3 hv
    subst this
    exact nd.1 q1
  | (none, d) :: r, as', h, nd, fl => by
    rw [pick] at h
    obtain ⟨as'', h2, rfl⟩ := Option.map_eq_some_iff.mp h
    rw [List.filterMap_cons] at nd
    simp only at nd
    rw [List.all_cons, Bool.and_eq_true] at fl
    rw [pickV]
    exact .cons (dV_ok fl.1) (fun p m _ ⟨xs, e2⟩ e3 => by cases e2) (pick_pd pd h2 nd fl.2)
end
/-! ### the call -/
section
variable {X : Cx} {Φ : Phi} {k n m : Nat} {f : Addr} {fd : FuncData} {ps ks : List Str} {sp : Sg} {x : Str} {p pos : Pos} {e : Expr} {es : List Expr} {kws : List Keyword} {g : List Value → List Value → List Value} {gV : List V → List V → List V}
def tCallKG (n m : Nat) (sp : Sg) (gV : List V → List V → List V) (t tk : TA) : TE := fun σ H Q => t σ H fun vs H1 => tk σ H1 fun zs H2 => vs.length = n ∧ zs.length = m ∧ sp (gV vs zs) H2 Q
theorem run_fnKG {pins : List (Addr × Obj)} {σ : L2.St} {H : Hp} {s : Shared} {Q : VK} {us ws : List Value} {vs zs : List V} (F : FnG X.prog X.w X.K X.mg X.base k f fd ps sp) (hr : Room k X.A) (hgd : X.A.guards = some []) (hb : KBn X.K fd ps n ks g gV)
    (I : Inv X pins σ H s) (r : Vals vs us) (rz : Vals zs ws) (l1 : vs.length = n) (l2 : zs.length = ks.length) (h : sp (gV vs zs) H Q) : wpAny (model X.prog X.w) X.A (call (.ref f) us (ks.zip ws)) (EP X pins σ Q) X.xe s := by
  have hrun := F.run X.A X.stack s H ⟨us, ks.zip ws⟩ (g us ws) (gV vs zs) Q hr hgd I.env0 (hb.to s us ws I.kIn (r.length.symm.trans l1) (rz.length.symm.trans l2)) (hb.rel r rz) h
  refine wpAny_call (codeAny_mono hrun ?_)
  intro res s2 hres
  match res, hres with
  | .ok (.ret u), hres => exact I.after hres
  | .ok .next, hres => cases hres
  | .ok .brk, hres => cases hres
  | .ok .cont, hres => cases hres
  | .error e, hres => cases hres
theorem pe_callKG (F : FnG X.prog X.w X.K X.mg X.base k f fd ps sp) (hr : Room k X.A) (hgd : X.A.guards = some []) (hg : Gl X x) (hm : X.mg x = some (.ref f)) (hk : PySem.W.keepIn X.K (.ref f) = true) (hb : KBn X.K fd ps n ks g gV)
    (hn : (e :: es).all notStar = true) (hks : kwNs kws = some ks) (hdb : (x == ("__debug__" : Str)) = false) : PE X (.Call (.Name x p) (e :: es) kws pos) (tCallKG n ks.length sp gV (twa X (e :: es)) (twk X kws)) := by
  constructor
  intro pins s σ H Q I h
  apply wpAny_Call_Name_kw (ld_glob I hg hm ?_ hdb)
  have hn' := hn
  rw [List.all_cons, Bool.and_eq_true] at hn
  obtain ⟨k1, k2, k3⟩ := kw_all (env := X.env) (pos := pos) hks
  refine PySem.W.callWith_KW (h₀ := X.base) I.ok.mod.kin hk k1 (thn (h pos pins s I) fun us s1 ⟨vs, H1, I1, r1, q⟩ => ?_) (by rw [star_plain hn', k3]; rfl) (star_cons hn.1)
  refine thn (q pos pins s1 I1) fun ws s2 ⟨zs, H2, I2, rz, l1, l2, q2⟩ => ⟨I2.kIn, ?_⟩
  rw [k2]
  exact run_fnKG F hr hgd hb I2 r1 rz l1 l2 q2
theorem okE_callK {nf : Nat} {io iok : List Bool} {cs cks : CEs} {ord : Ord} (F : FnG X.prog X.w X.K X.mg X.base k f fd ps (spG X.K (Φ nf))) (hr : Room k X.A) (hgd : X.A.guards = some []) (hg : Gl X x) (hm : X.mg x = some (.ref f)) (hk : PySem.W.keepIn X.K (.ref f) = true)
    (hb : KBn X.K fd ps n ks g (fun vs zs => pickV ord (vs ++ zs))) (hn : (e :: es).all notStar = true) (hks : kwNs kws = some ks) (hdb : (x == ("__debug__" : Str)) = false) (l1 : cs.len = n) (l2 : cks.len = ks.length) (nd : (ord.filterMap (·.1)).Nodup) (fl : (ord.all fun o => o.1.isSome || flatD o.2) = true)
    (h : OkA X Φ io cs (e :: es)) (hK : OkK X Φ iok cks kws) : OkE X Φ (.callK nf io cs iok cks ord) (.Call (.Name x p) (e :: es) kws pos) := by
  intro ρ r ρ' hv σ H O rp Q q
  rw [ev] at hv
  obtain ⟨⟨as1, ρ1⟩, h1, hv⟩ := Option.bind_eq_some_iff.mp hv
  obtain ⟨⟨as2, ρ2⟩, h2, hv⟩ := Option.bind_eq_some_iff.mp hv
  obtain ⟨as, h3, hv⟩ := Option.bind_eq_some_iff.mp hv
  simp only at hv
  split at hv
  rotate_left
  · cases hv
  rename_i nds
  obtain ⟨rs, h4, hv⟩ := Option.bind_eq_some_iff.mp hv
  obtain ⟨⟨r', outs⟩, h5, e5⟩ := Option.map_eq_some_iff.mp hv
  cases e5
  refine of_pe (pe_callKG F hr hgd hg hm hk hb hn hks hdb) ?_
  refine h ρ as1 ρ1 h1 σ H O rp _ fun vs H1 O1 n1 pd1 => ?_
  refine hK ρ1 as2 ρ2 h2 σ H1 O1 n1.rp _ fun zs H2 O2 n2 pd2 => ?_
  have pd := pick_pd (pd_app rp n1 n2 pd2 pd1) h3 nd fl
  have n12 := n1.trans rp n2
  refine ⟨by rw [← pd1.length, eva_len h1, l1], by rw [← pd2.length, eva_len h2, l2], rs, _, outs, O2, h5, args_rp n12.rp (n12.nown rp) pd h4 nds, fun v H3 O3 m hR => ?_⟩
  exact q v H3 O3 (call_nx rp n12 pd h4 nds m) (hR.from fun a z => n12.base z)
end
/-! ### how such a def binds -/
section
variable {K : PySem.W.Frag} {x qual : Str} {st : Stmt} {f : Addr} {ps : List Str}
theorem kb_kw {an : Option Addr} {D : Addr} {doc pm cdv ct : Value} {ord : Ord} {n : Nat} {ks : List Str} (ms : List (Str × V)) (hms : ∀ q ∈ ms, ∃ u, PySem.W.nsIn K D q.1 = some (some u) ∧ RelV q.2 u) (hord : ms.map (·.2) = msV ord)
    (h : ∀ (us mv ws : List Value), us.length = n → mv.length = ms.length → ws.length = ks.length →
      KwChain D ((ms.map (·.1)).zip mv) (bindArgs (PySem.W.fnOf x qual (defArgs st) (defBody st) (defScope st) .none (.ref D) doc pm an cdv ct) ⟨us, ks.zip ws⟩) (ps.zip (pickU ord (us ++ ws) mv))) :
    ∃ g, KBn K (PySem.W.fnOf x qual (defArgs st) (defBody st) (defScope st) .none (.ref D) doc pm an cdv ct) ps n ks g (fun vs zs => pickV ord (vs ++ zs)) := by
  obtain ⟨mv, hl, rk, hks⟩ := kwd_vals hms
  refine ⟨fun us ws => pickU ord (us ++ ws) mv, ⟨fun s us ws X l1 l2 => ?_, fun r1 r2 => pick_rel (r1.append r2) ord (by rw [← hord]; exact rk)⟩⟩
  exact BindsTo.of_looks fun M => KwChain.looks X hks (h us mv ws l1 hl l2)
theorem kb_plain {kV : Value} {an : Option Addr} {doc pm cdv ct : Value} {ord : Ord} {n : Nat} {ks : List Str} (hord : msV ord = [])
    (h : ∀ (us ws : List Value), us.length = n → ws.length = ks.length →
      bindArgs (PySem.W.fnOf x qual (defArgs st) (defBody st) (defScope st) .none kV doc pm an cdv ct) ⟨us, ks.zip ws⟩ = pure (ps.zip (pickU ord (us ++ ws) []))) :
    ∃ g, KBn K (PySem.W.fnOf x qual (defArgs st) (defBody st) (defScope st) .none kV doc pm an cdv ct) ps n ks g (fun vs zs => pickV ord (vs ++ zs)) := by
  refine ⟨fun us ws => pickU ord (us ++ ws) [], ⟨fun s us ws X l1 l2 => ?_, fun r1 r2 => pick_rel (r1.append r2) ord (by rw [hord]; exact .nil)⟩⟩
  exact BindsTo.of_looks fun M => PySem.W.Looks.of_pure (h us ws l1 l2)
end
end DI

/-! DIU: set(a list of ints), sorted(set(a list of ints)). -/
namespace DI
open PySem PySem.Spec PyProof.Rows L2
section
variable {P : Program} {w : World} {A : Around} {E : Value → Shared → Prop} {s : Shared}
def nset (w : World) : Obj := { cls := .type "set", dict := none, data := .set #[] 0 (.fresh 0 0 (!w.params.followText "set-order")) }
set_option maxHeartbeats 3200000 in
/-- a new set takes a list's ints -/
theorem init_ints {S l : Addr} {items : Array Value} (ns : List Int) {E' : Value → Shared → Prop} (hh : A.handled = none) (hS : s.heap.get? S = some (nset w)) (hne : l ≠ S) (hl : s.heap.IsList l items) (hit : IntsAre items.toList ns) (hb : ns.length + 1 < scanBound) {R : Result → Shared → Prop}
    (h : ∀ (h' : Heap) (tk c : Nat), SetR w h' S (fun j => decide (j ∈ ns)) c → c ≤ ns.length → (∀ b o, b ≠ S → s.heap.get? b = some o → h'.get? b = some o) → R (.ok (.ret .none)) { s with heap := h', toks := tk }) :
    wpAny (model P w) A (Builtin.«set.__init__» ⟨[.ref S, .ref l], []⟩) (fun fin s' => match fin with
      | .done f => R (.ok f) s'
      | .again _ => False) E' s := by
  have hisz : items.size = ns.length := by
    have q := IntsAre.length hit
    rw [Array.length_toList] at q
    exact q
  have hT : s.TypeIs (.ref S) "set" := ⟨_, hS, rfl⟩
  obtain ⟨ol, hol, hcl, nl, hdl⟩ := id hl
  obtain ⟨ocls, odict, odata, oslots⟩ := ol
  simp only at hcl hdl
  subst hcl; subst hdl
  have hsls := F.sub_list_set
  have hslf := F.sub_list_frozenset
  have hne2 : (Value.type "list" == Value.type "dict") = false := by decide
  unfold nset at hS
  unfold Builtin.«set.__init__» noKeywords Builtin.Frozenset.updateFrom
  generalize hPI : pyIter = PI
  wp_walk
  subst hPI
  have hsz : s.heap.objs.size ∉ [s.heap.objs.size] → False := fun z => z (by simp)
  have lS : S < s.heap.objs.size := Heap.lt_size hS
  have lL : l < s.heap.objs.size := Heap.lt_size hol
  have hval : ∀ (i : Nat) (v : Value), items[i]? = some v → ∃ k t, ns[i]? = some k ∧ v = .int k t := fun i v hv => by
    have hi : i < ns.length := by rw [← hisz]; exact (Array.getElem?_eq_some_iff.mp hv).1
    obtain ⟨t, e⟩ := IntsAre.int_at hit i v (by rw [Array.getElem?_toList]; exact hv)
    refine ⟨ns[i], t, List.getElem?_eq_getElem hi, ?_⟩
    rw [e, List.getD_eq_getElem?_getD, List.getElem?_eq_getElem hi]
    rfl
  refine wpAny_pyIter_list hl ?_
  refine wpAny_bind (wpAny_runValue ?_)
  have hw : A.in1.handled = none := by simp [hh]
  refine set_update_ints ((Walks.list hw _ l (Nat.ne_of_lt lL) items).toS) S (by simp only [List.mem_cons, List.not_mem_nil, or_false, not_or]; exact ⟨Nat.ne_of_lt lS, hne.symm⟩) ns hisz hb hval (items.size - 0) 0 _ (by omega) (Nat.zero_le _)
    ⟨⟨_, Heap.get?_push_size _ rfl, rfl, rfl⟩, hl.push _⟩ ⟨0, Nat.le_refl 0, setR_new_at (Heap.get?_push_of_some _ hS)⟩ ?_
  intro s' c' hm hc' hS'
  obtain ⟨h', g2, d', tk', os'⟩ := s'
  have eg : g2 = s.gens := hm.gens
  have ed : d' = s.drawn := hm.drawn
  have eo : os' = s.os := hm.os
  subst eg
  subst ed
  subst eo
  refine wpAny_pure (wpAny_pure ?_)
  rw [hisz] at hc'
  refine h h' tk' c' hS' hc' fun b o hb' e => ?_
  have hb0 : b < s.heap.objs.size := Heap.lt_size e
  exact hm.heap b o (by simp only [List.mem_cons, List.not_mem_nil, or_false, not_or]; exact ⟨hb', Nat.ne_of_lt hb0⟩) (Heap.get?_push_of_some _ e)
set_option maxHeartbeats 3200000 in
theorem call_setI {l : Addr} {items : Array Value} (ns : List Int) {Q : Value → Shared → Prop} (hh : A.handled = none) (hl : s.heap.IsList l items) (hit : IntsAre items.toList ns) (hb : ns.length + 1 < scanBound)
    (h : ∀ (h' : Heap) (tk c : Nat), SetR w h' s.heap.objs.size (fun j => decide (j ∈ ns)) c → c ≤ ns.length → (∀ b o, s.heap.get? b = some o → h'.get? b = some o) → Q (.ref s.heap.objs.size) { s with heap := h', toks := tk }) :
    wpAny (model P w) A (call (.type "set") [.ref l]) Q E s := by
  have lL : l < s.heap.objs.size := by
    obtain ⟨o, e, _⟩ := hl
    exact Heap.lt_size e
  obtain ⟨c, tl, hmro⟩ := F.called_set.mro
  have hmade := F.called_set.made
  have hsub := F.called_set.sub
  refine wpAny_call (codeAny_of_tree ?_)
  show wpAny _ _ (callAny (.type "set") _) _ _ _
  refine wpAny_pure ⟨Code.quiet_builtin _ (by decide +kernel), codeAny_builtin F.entry_type_call ?_⟩
  rw [Around.under_plain (weight_type_call_type "set" [.ref l] []) rfl]
  have h1 := F.called_set.notType
  have h2 := F.called_set.canCreate
  have hct := F.typeCall_set_1 (.ref l)
  repeat (any_goals (first | assumption | wp_step))
  refine codeAny_mono (code_set_led1 (.ref l) (E := E) (Q₁ := fun obj s₁ => obj = .ref s.heap.objs.size ∧ s₁ = { s with heap := s.heap.push (nset w) }) ⟨rfl, rfl⟩) fun r s₁ hr => ?_
  cases r with
  | error e => exact hr
  | ok fl =>
    cases fl with
    | ret obj =>
      obtain ⟨rfl, rfl⟩ := hr
      have hS : (s.heap.push (nset w)).get? s.heap.objs.size = some (nset w) := Heap.get?_push_size _ rfl
      have hT : Shared.TypeIs { s with heap := s.heap.push (nset w) } (.ref s.heap.objs.size) "set" := ⟨_, hS, rfl⟩
      have hli := F.called_set.init.lookup
      have hbi := F.called_set.init.bind (.ref s.heap.objs.size)
      repeat (any_goals (first | assumption | wp_step))
      refine codeAny_mono (codeAny_call_builtin (R := wants (fun r s₂ => r = .none ∧ ∃ h' tk c, s₂ = { s with heap := h', toks := tk } ∧ SetR w h' s.heap.objs.size (fun j => decide (j ∈ ns)) c ∧ c ≤ ns.length ∧
          (∀ b o, s.heap.get? b = some o → h'.get? b = some o)) E) F.called_set.init.plain F.entry_set_init (check_set_init_1 hT ?_)) fun r₂ s₂ hr₂ => ?_
      · refine wpAny_mono (init_ints (E' := fun _ _ => False) (R := fun r s₂ => r = .ok (.ret .none) ∧ ∃ h' tk c, s₂ = { s with heap := h', toks := tk } ∧ SetR w h' s.heap.objs.size (fun j => decide (j ∈ ns)) c ∧ c ≤ ns.length ∧
          (∀ b o, s.heap.get? b = some o → h'.get? b = some o)) ns (by simp [hh]) hS (Nat.ne_of_lt lL) (hl.push _) hit hb fun h' tk c R hc k => ⟨rfl, h', tk, c, rfl, R, hc, fun b o e => k b o (Nat.ne_of_lt (Heap.lt_size e)) (Heap.get?_push_of_some _ e)⟩) (fun fin s' z => ?_) fun _ _ z => z.elim
        cases fin with
        | done f =>
          obtain ⟨e, z⟩ := z
          cases e
          exact ⟨rfl, z⟩
        | again _ => exact z.elim
      · cases r₂ with
        | error e => exact hr₂
        | ok fl₂ =>
          cases fl₂ with
          | ret r =>
            obtain ⟨rfl, h', tk, c, rfl, hS', hc', hk'⟩ := hr₂
            repeat (any_goals (first | assumption | wp_step))
            exact h _ _ _ hS' hc' hk'
          | _ => exact hr₂.elim
    | _ => exact hr.elim
end
section
variable {X : Cx}
/-- set(a list of ints) -/
def rSetI (K : PySem.W.Frag) (w : World) : List V → Hp → VK → Prop := fun xs H Q => ∃ (a : Addr) (ns : List Int), xs = [V.ref a] ∧ SqL K H a (ns.map V.int) ∧ ns.length ≤ 4000 ∧
  ∀ (p : Addr) (c : Nat), c ≤ ns.length → H p = none → Q (.ref p) (L2.upd H p (SetO w p (fun j => decide (j ∈ ns)) c))
theorem cr_setI (hc : X.calm = true) : CallR X (.type "set") (rSetI X.K X.w) := by
  intro pins s σ H xs us Q I r h
  obtain ⟨a, ns, rfl, hq, hl, q⟩ := h
  rw [Vals.ref1 r]
  obtain ⟨its, r', pl, _⟩ := I.list hq
  refine call_setI ns (I.ok.hd hc) pl.isList (ints_of_vals (by simpa using r')) (by unfold scanBound; omega) fun h' tk c R hc' k => ?_
  have hf : H s.heap.objs.size = none := I.hok.fresh (Nat.le_refl _)
  exact ⟨.ref _, L2.upd H s.heap.objs.size (SetO X.w s.heap.objs.size (fun j => decide (j ∈ ns)) c), I.laid (t' := tk) k (Nat.le_refl _) (setO_new R), rfl, q _ c hc' hf⟩
end
end DI

/-! DIV: rising lists, each number once (needs DI1 with sset.diff). -/
namespace DI
theorem insU_mem (k : Int) : ∀ (l : List Int) (x : Int), x ∈ insU k l ↔ x = k ∨ x ∈ l
  | [], x => by simp [insU]
  | y :: l, x => by
    rw [insU]
    split
    · simp
    · split
      · rename_i e
        subst e
        simp
      · rw [List.mem_cons, insU_mem k l, List.mem_cons]
        constructor
        · rintro (h | h | h)
          · exact .inr (.inl h)
          · exact .inl h
          · exact .inr (.inr h)
        · rintro (h | h | h)
          · exact .inr (.inl h)
          · exact .inl h
          · exact .inr (.inr h)
theorem insU_sorted (k : Int) : ∀ l : List Int, l.Pairwise (· < ·) → (insU k l).Pairwise (· < ·)
  | [], _ => by simp [insU]
  | y :: l, h => by
    obtain ⟨h1, h2⟩ := List.pairwise_cons.mp h
    rw [insU]
    split
    · rename_i lt
      refine List.pairwise_cons.mpr ⟨fun z hz => ?_, h⟩
      rcases List.mem_cons.mp hz with rfl | hz
      · exact lt
      · exact Int.lt_trans lt (h1 z hz)
    · split
      · exact h
      · refine List.pairwise_cons.mpr ⟨fun z hz => ?_, insU_sorted k l h2⟩
        rcases (insU_mem k l z).mp hz with rfl | hz
        · omega
        · exact h1 z hz
theorem riseU_mem : ∀ (l : List Int) (x : Int), x ∈ riseU l ↔ x ∈ l
  | [], x => by simp [riseU]
  | k :: l, x => by rw [riseU, insU_mem, riseU_mem l, List.mem_cons]
theorem riseU_sorted : ∀ l : List Int, (riseU l).Pairwise (· < ·)
  | [] => by simp [riseU]
  | k :: l => insU_sorted k _ (riseU_sorted l)
theorem rise_uniq : ∀ a b : List Int, a.Pairwise (· < ·) → b.Pairwise (· < ·) → (∀ x, x ∈ a ↔ x ∈ b) → a = b
  | [], [], _, _, _ => rfl
  | [], y :: b, _, _, h => by have := (h y).mpr List.mem_cons_self; cases this
  | x :: a, [], _, _, h => by have := (h x).mp List.mem_cons_self; cases this
  | x :: a, y :: b, ha, hb, h => by
    obtain ⟨a1, a2⟩ := List.pairwise_cons.mp ha
    obtain ⟨b1, b2⟩ := List.pairwise_cons.mp hb
    have e : x = y := by
      rcases List.mem_cons.mp ((h x).mp List.mem_cons_self) with e | e
      · exact e
      · rcases List.mem_cons.mp ((h y).mpr List.mem_cons_self) with f | f
        · exact f.symm
        · have := a1 y f
          have := b1 x e
          omega
    subst e
    rw [rise_uniq a b a2 b2 fun z => ?_]
    constructor
    · intro hz
      rcases List.mem_cons.mp ((h z).mp (List.mem_cons_of_mem _ hz)) with e | e
      · have := a1 z hz
        omega
      · exact e
    · intro hz
      rcases List.mem_cons.mp ((h z).mpr (List.mem_cons_of_mem _ hz)) with e | e
      · have := b1 z hz
        omega
      · exact e
end DI

/-! DIW: sorted(set(a list of ints)), what it makes (needs DI1 with sset.diff). -/
namespace DI
open PySem PySem.Spec PyProof.Rows L2
section
variable {K : PySem.W.Frag} {H : Hp} {O : List Addr}
theorem mk_sset {w : World} {ns : List Int} {T : VK → Prop} (ow : Ow H O)
    (h : ∀ Q : VK, (∀ (p : Addr) (c : Nat), c ≤ ns.length → H p = none → ∀ (ms : List Int) (p2 : Addr), ms.Pairwise (· < ·) → (∀ k : Int, k ∈ ms ↔ decide (k ∈ ns) = true) →
      L2.upd H p (SetO w p (fun j => decide (j ∈ ns)) c) p2 = none → Q (.ref p2) (L2.upd (L2.upd H p (SetO w p (fun j => decide (j ∈ ns)) c)) p2 (.lst (ms.map V.int)))) → T Q) :
    Mk1 K H O (.l ((riseU ns).map .int)) T := fun Q q => by
  refine h Q fun p c _ hp ms p2 s1 s2 hp2 => ?_
  have e : ms = riseU ns := rise_uniq _ _ s1 (riseU_sorted ns) fun x => by rw [s2, riseU_mem, decide_eq_true_iff]
  subst e
  have st := (Stp.new1 (S := fun _ => False) (O := O) (o := SetO w p (fun j => decide (j ∈ ns)) c) hp)
  have hp0 : H p2 = none := by
    by_cases z : p2 = p
    · rw [z]; exact hp
    · rw [← hp2]; unfold L2.upd; rw [if_neg z]
  refine q _ _ (p2 :: O) (st.trans (Stp.newO (S := fun _ => False) hp2) (fun _ (z : False) => z.elim) ow) (((ow.new hp).new hp2).cons upd_same rfl) ⟨p2, _, rfl, List.mem_cons_self, hp0, upd_same, dqA_ints _⟩
end
end DI

/-! DIY: sorted(set(e)) as an expression (needs DI1 with sset.diff). -/
namespace DI
open PySem PySem.Spec PyProof.Rows L2
section
variable {X : Cx} {Φ : Phi} {c : CE} {e : Expr} {p p2 pos pos2 : Pos}
theorem okE_sset (hc : X.calm = true) (hg1 : Gl X "sorted") (hm1 : X.mg "sorted" = none) (hg2 : Gl X "set") (hm2 : X.mg "set" = none) (hn : notStar e = true) (ha : OkB X Φ c e) :
    OkE X Φ (.sset c) (.Call (.Name "sorted" p) [.Call (.Name "set" p2) [e] [] pos2] [] pos) := by
  intro ρ r ρ' hv σ H O rp Q q
  rw [ev] at hv
  obtain ⟨⟨y, ρ1⟩, h1, hv⟩ := Option.bind_eq_some_iff.mp hv
  obtain ⟨x, h2, hv⟩ := Option.bind_eq_some_iff.mp hv
  simp only at hv
  split at hv
  · rename_i xs
    obtain ⟨ys, h3, hv⟩ := Option.map_eq_some_iff.mp hv
    cases hv
    unfold ssetD at h3
    obtain ⟨ns, h4, h5⟩ := Option.bind_eq_some_iff.mp h3
    split at h5
    · rename_i hl
      cases h5
      have hb2 : bootBuiltins "set" = some (.type "set") := by decide +kernel
      have hb1 : bootBuiltins "sorted" = some (.builtin "sorted") := by decide +kernel
      have inner : PE X (.Call (.Name "set" p2) [e] [] pos2) _ := pe_callTy (cr_setI hc) hg2 hm2 hb2 (pa_cons pe_wp pa_nil (star_cons hn)) (by decide) (by decide) (star_cons hn) rfl
      refine of_pe (pe_callB (cr_sortedSet hc) hg1 hm1 hb1 (pa_cons inner pa_nil rfl) (by decide) (by decide) rfl rfl) ?_
      refine ha ρ y _ h1 σ H O rp _ fun v H1 O1 n1 r1 => ?_
      obtain ⟨a, vs, rfl, hp, d⟩ := (rd_ok n1.rp r1 h2).list
      obtain ⟨rfl, rfl⟩ := intsD_ok h4 d
      have m := n1.made rp (mk_sset (w := X.w) (ns := ns) (T := fun Q => ∀ (p : Addr) (c : Nat), c ≤ ns.length → H1 p = none → ∀ (ms : List Int) (p2 : Addr), ms.Pairwise (· < ·) → (∀ k : Int, k ∈ ms ↔ decide (k ∈ ns) = true) →
        L2.upd H1 p (SetO X.w p (fun j => decide (j ∈ ns)) c) p2 = none → Q (.ref p2) (L2.upd (L2.upd H1 p (SetO X.w p (fun j => decide (j ∈ ns)) c)) p2 (.lst (ms.map V.int)))) n1.rp.dom fun Q q => q) q
      refine ⟨a, ns, rfl, SqL.of hp, by omega, fun p c hcl hp1 => ?_⟩
      exact ⟨p, _, c, rfl, upd_same, by omega, fun ms p2 s1 s2 s3 hp2 => m p c hcl hp1 ms p2 s1 s2 hp2⟩
    · cases h5
  · cases hv
end
end DI

/-! DC1: comprehensions of any number of clauses: lists, sets of ints, dicts. -/
namespace DI
open PySem PySem.Spec PyProof.Rows L2
/-- what a comprehension makes -/
inductive CK where
  | list (elt : Expr)
  | set (elt : Expr)
  | dict (k v : Expr)
def CK.ex : CK → List Comprehension → Scope → Pos → Expr
  | .list e, g, s, p => .ListComp e g s p
  | .set e, g, s, p => .SetComp e g s p
  | .dict k v, g, s, p => .DictComp k v g s p
def CK.emit (acc : Value) (env : Env) : CK → Sem Unit
  | .list elt => do let _ ← call (.builtin "list.append") [acc, ← eval elt env]
  | .set elt => do let v ← eval elt env; standAt elt.pos; let _ ← call (.builtin "set.add") [acc, v]
  | .dict k v => do
        let kv ← eval k env
        let vv ← holding [kv] (eval v env)
        match acc with
        | .ref d => do
          standAt { k.pos with endLine := v.pos.endLine, endCol := v.pos.endCol }
          holding [kv, vv] (dictSet d kv vv)
        | _ => unsupported "internal:dictcomp"
def testsG (ifs : List Expr) (env : Env) : Sem Bool := forIn ifs true fun c r => if r = true then do let ok ← isTrue c env (eval c env); pure (ForInStep.yield ok) else pure (ForInStep.yield r)
theorem turnG_out {kd : CK} {gens : List Comprehension} {scope : Scope} {pos : Pos} {d : Nat} {t0 i0 t1 i1 : Expr} {ifs0 ifs1 : List Expr} (hg : gens[d]? = some ⟨t0, i0, ifs0, 0⟩) (hg1 : gens[d + 1]? = some ⟨t1, i1, ifs1, 0⟩) (it acc : Value) (env : Env) :
    compTurn (kd.ex gens scope pos) d it acc env = (do
      standAt i0.pos
      match ← pyNext it with
      | none => pure (.done .next)
      | some v =>
        letOwnedTupleGo t0 it v
        assign t0 env v
        let ok ← testsG ifs0 env
        if ok then
          let x ← eval i1 env
          standAt i1.pos
          let x ← foldedSetIterable i1 env x
          let _ ← runOwn (.compStart (kd.ex gens scope pos) (d + 1) (← holding [x] (pyIter x)) acc env) env
          again (.compLoop (kd.ex gens scope pos) d it acc env)
        else again (.compLoop (kd.ex gens scope pos) d it acc env)) := by
  cases kd <;> (unfold compTurn testsG; simp only [CK.ex, hg, hg1]; rfl)
theorem turnG_in {kd : CK} {gens : List Comprehension} {scope : Scope} {pos : Pos} {d : Nat} {t0 i0 : Expr} {ifs0 : List Expr} (hg : gens[d]? = some ⟨t0, i0, ifs0, 0⟩) (hg1 : gens[d + 1]? = none) (it acc : Value) (env : Env) :
    compTurn (kd.ex gens scope pos) d it acc env = (do
      standAt i0.pos
      match ← pyNext it with
      | none => pure (.done .next)
      | some v =>
        letOwnedTupleGo t0 it v
        assign t0 env v
        let ok ← testsG ifs0 env
        if ok then
          kd.emit acc env
          again (.compLoop (kd.ex gens scope pos) d it acc env)
        else again (.compLoop (kd.ex gens scope pos) d it acc env)) := by
  cases kd <;> (unfold compTurn testsG; simp only [CK.ex, hg, hg1]; rfl)
section
variable {prog : Program} {w : World} {A : Around} {R : Result → Shared → Prop} {s : Shared} {kd : CK} {gens : List Comprehension} {scope : Scope} {pos : Pos} {d : Nat} {t0 i0 t1 i1 : Expr} {ifs0 ifs1 : List Expr} {it acc : Value} {env : Env}
/-- what a clause does behind its tests -/
def tailG (kd : CK) (gens : List Comprehension) (scope : Scope) (pos : Pos) (d : Nat) (acc : Value) (env : Env) (A : Around) (prog : Program) (w : World) (N : Shared → Prop) (NB : Value → Shared → Prop) (s : Shared) : Prop :=
  match gens[d + 1]? with
  | some g => wpAny (model prog w) A (eval g.iter env) (fun x s₄ => wpAny (model prog w) A (pyIter x) (fun it1 s₅ =>
      codeAny (model prog w) A (.compStart (kd.ex gens scope pos) (d + 1) it1 acc env) (fun r s' => match r with
        | .ok _ => N s'
        | .error _ => False) s₅) NB s₄) NB s
  | none => wpAny (model prog w) A (kd.emit acc env) (fun _ s' => N s') NB s
theorem loopG (hg : gens[d]? = some ⟨t0, i0, ifs0, 0⟩) (hg1 : ∀ g, gens[d + 1]? = some g → g.is_async = 0 ∧ ∀ x, foldedSetIterable g.iter env x = pure x) (I : Nat → Shared → Prop)
    (turn : ∀ n s, I n s → wpAny (model prog w) A (pyNext it) (fun r s₁ => match r with
      | none => R (.ok .next) s₁
      | some v => wpAny (model prog w) A (letOwnedTupleGo t0 it v) (fun _ s₁' => wpAny (model prog w) A (assign t0 env v) (fun _ s₂ =>
          wpAny (model prog w) A (testsG ifs0 env) (fun ok s₃ =>
            if ok = true then tailG kd gens scope pos d acc env A prog w (fun s' => ∃ m, m < n ∧ I m s') (notedBy (model prog w) A env fun e s' => R (.error e) s') s₃
            else ∃ m, m < n ∧ I m s₃) (notedBy (model prog w) A env fun e s' => R (.error e) s') s₂) (notedBy (model prog w) A env fun e s' => R (.error e) s') s₁') (notedBy (model prog w) A env fun e s' => R (.error e) s') s₁) (notedBy (model prog w) A env fun e s' => R (.error e) s') s)
    (n : Nat) (h : I n s) :
    codeAny (model prog w) A (.compLoop (kd.ex gens scope pos) d it acc env) R s := by
  refine codeAny_loop rfl I (fun n s hI => ?_) n h
  have hA : A.under (Code.compLoop (kd.ex gens scope pos) d it acc env) = A := by cases kd <;> rfl
  have hB : (model prog w).den (Code.compLoop (kd.ex gens scope pos) d it acc env) = (compTurn (kd.ex gens scope pos) d it acc env).onRaise (fun x => do noteFrame x env; theTreesLotGoes x) := by cases kd <;> rfl
  rw [hA, hB]
  refine wpAny_noted ?_
  cases e1 : gens[d + 1]? with
  | none =>
    rw [turnG_in hg e1]
    refine wpAny_bind (wpAny_standAt (wpAny_bind (wpAny_mono (turn n s hI) (fun r s₁ h₁ => ?_) fun _ _ h' => h')))
    cases r with
    | none => exact wpAny_pure h₁
    | some v =>
      refine wpAny_bind (wpAny_mono h₁ (fun _ s₁' h₁' => ?_) fun _ _ h' => h')
      refine wpAny_bind (wpAny_mono h₁' (fun _ s₂ h₂ => wpAny_bind (wpAny_mono h₂ (fun ok s₃ h₃ => ?_) fun _ _ h' => h')) fun _ _ h' => h')
      cases ok with
      | false => exact wpAny_pure ⟨rfl, h₃⟩
      | true =>
        unfold tailG at h₃
        simp only [e1, if_true] at h₃
        exact wpAny_bind (wpAny_mono h₃ (fun _ s₅ h₅ => wpAny_pure ⟨rfl, h₅⟩) fun _ _ h' => h')
  | some g =>
    obtain ⟨ga, hs⟩ := hg1 g e1
    obtain ⟨t1, i1, ifs1, a1⟩ := g
    simp only at ga hs
    subst ga
    rw [turnG_out hg e1]
    refine wpAny_bind (wpAny_standAt (wpAny_bind (wpAny_mono (turn n s hI) (fun r s₁ h₁ => ?_) fun _ _ h' => h')))
    cases r with
    | none => exact wpAny_pure h₁
    | some v =>
      refine wpAny_bind (wpAny_mono h₁ (fun _ s₁' h₁' => ?_) fun _ _ h' => h')
      refine wpAny_bind (wpAny_mono h₁' (fun _ s₂ h₂ => wpAny_bind (wpAny_mono h₂ (fun ok s₃ h₃ => ?_) fun _ _ h' => h')) fun _ _ h' => h')
      cases ok with
      | false => exact wpAny_pure ⟨rfl, h₃⟩
      | true =>
        unfold tailG at h₃
        simp only [e1, if_true] at h₃
        refine wpAny_bind (wpAny_mono h₃ (fun x s₄ h₄ => ?_) fun _ _ h' => h')
        refine wpAny_bind (wpAny_standAt (wpAny_bind (wpAny_of_eq (hs x) (wpAny_bind (wpAny_holding (wpAny_mono h₄ (fun it1 s₅ h₅ => ?_) fun _ _ h' => h'))))))
        refine wpAny_bind (wpAny_runOwn ?_)
        rw [Around.mark_none]
        refine codeAny_mono h₅ fun r s' hr => ?_
        cases r with
        | ok f =>
          first
            | exact wpAny_pure ⟨rfl, hr⟩
            | exact wpAny_bind (wpAny_pure (wpAny_pure ⟨rfl, hr⟩))
        | error e => exact hr.elim
/-- a clause's start -/
theorem startG (hg : gens[d]? = some ⟨t0, i0, ifs0, 0⟩) (h0 : codeAny (model prog w) A (.compLoop (kd.ex gens scope pos) d it acc env) R s)
    (h : wpAny (model prog w) A (pyIter it) (fun it' s' => codeAny (model prog w) A (.compLoop (kd.ex gens scope pos) d it' acc env) R s')
      (notedBy (model prog w) A env fun x s' => R (.error x) s') s) :
    codeAny (model prog w) A (.compStart (kd.ex gens scope pos) d it acc env) R s := by
  refine codeAny_of_tree ?_
  have hA : A.under (Code.compStart (kd.ex gens scope pos) d it acc env) = A := by cases kd <;> rfl
  have hB : (model prog w).den (Code.compStart (kd.ex gens scope pos) d it acc env) = (compStart (kd.ex gens scope pos) d it acc env).onRaise (fun x => do noteFrame x env; standAt theWindowsPlace) := by cases kd <;> rfl
  rw [hA, hB]
  refine wpAny_notedAt ?_
  have hc : (clausesOf (kd.ex gens scope pos))[d]? = some ⟨t0, i0, ifs0, 0⟩ := by
    cases kd <;> exact hg
  unfold compStart
  rw [hc]
  show wpAny _ _ (ask >>= _) _ _ s
  refine wpAny_bind (wpAny_askSetting (wpAny_ite ?_))
  split
  · first
      | exact wpAny_bind (wpAny_pure (wpAny_pure (And.intro rfl h0)))
      | exact wpAny_pure (And.intro rfl h0)
  · first
      | exact wpAny_bind (wpAny_rule (wpAny_bind (wpAny_standAt (wpAny_bind (wpAny_mono h (fun it' s' h' => wpAny_pure (And.intro rfl h')) fun _ _ x => x)))))
      | (refine wpAny_bind (wpAny_rule ?_); show wpAny _ _ (standAt i0.pos >>= _) _ _ s; exact wpAny_bind (wpAny_standAt (wpAny_bind (wpAny_mono h (fun it' s' h' => wpAny_pure (And.intro rfl h')) fun _ _ x => x))))
end
end DI

/-! DC2: their readings. -/
namespace DI
open PySem PySem.Spec PyProof.Rows L2
/-- a clause's readings: what is walked, the target, the tests, the names that are forgotten at its start -/
structure Cl where
  wi : TI
  g : TG
  tt : TT
  vs : List Nat
abbrev TN := L2.St → Hp → (Hp → Prop) → Prop
def tLp (body : TN) (c : Cl) (J : It) (W : Nat → Nat → Hp → Prop) (σ : L2.St) (N : Hp → Prop) : Prop := ∀ j k H, W j k H →
  (J.stop j H ∧ N H) ∨ (J.go j H ∧ ∃ N1 : Hp → Prop, (∀ H', N1 H' → ∃ k', k' < k ∧ W (j + 1) k' H') ∧ ∀ x H', J.yld j H x H' → c.g x (wipe σ c.vs) H' fun σ3 H5 => wipe σ3 c.vs = wipe σ c.vs ∧ c.tt σ3 H5 fun b H6 =>
    if b = true then body σ3 H6 N1 else N1 H6)
def tCl (last : TN) : List Cl → TN
  | [], σ, H, N => last σ H N
  | c :: r, σ, H, N => c.wi σ H fun J H4 => ∃ W : Nat → Nat → Hp → Prop, (∃ m, W 0 m H4) ∧ tLp (tCl last r) c J W σ N
def hdvs : List Cl → List Nat
  | [] => []
  | c :: _ => c.vs
inductive ClsOk (Y : Cx) (gens : List Comprehension) : Nat → List Cl → Prop
  | nil {d : Nat} : gens[d]? = none → ClsOk Y gens d []
  | cons {d : Nat} {t i : Expr} {ifs : List Expr} {c : Cl} {r : List Cl} : gens[d]? = some ⟨t, i, ifs, 0⟩ → PI Y t i c.wi → PG Y t c.g → PTs Y ifs c.tt → (∀ x, foldedSetIterable i Y.env x = pure x) → (∀ i ∈ hdvs r, i ∈ c.vs) → ClsOk Y gens (d + 1) r → ClsOk Y gens d (c :: r)
theorem ClsOk.nxt {Y : Cx} {gens : List Comprehension} {d : Nat} {r : List Cl} (h : ClsOk Y gens d r) : ∀ g, gens[d]? = some g → g.is_async = 0 ∧ ∀ x, foldedSetIterable g.iter Y.env x = pure x := by
  intro g e
  cases h with
  | nil h => rw [h] at e; cases e
  | cons h _ _ _ hs _ _ =>
    rw [h] at e
    cases e
    exact ⟨rfl, hs⟩
section
variable {Y : Cx} {kd : CK} {gens : List Comprehension} {scope : Scope} {pos : Pos} {D : Addr} {last : TN}
theorem tail_ok (hc : Y.calm = true) (hx : Y.xe = fun _ _ => False) (hl : ∀ (pins : List (Addr × Obj)) (s : Shared) (σ : L2.St) (H : Hp) (N : Hp → Prop), Inv Y pins σ H s → last σ H N →
      wpAny (model Y.prog Y.w) Y.A (kd.emit (.ref D) Y.env) (fun _ s' => ∃ H', Inv Y pins σ H' s' ∧ N H') (fun _ _ => False) s) :
    ∀ (rest : List Cl) (d : Nat), ClsOk Y gens (d + 1) rest → ∀ (pins : List (Addr × Obj)) (s : Shared) (σ : L2.St) (H : Hp) (N : Hp → Prop), Inv Y pins σ H s → tCl last rest σ H N →
      ∀ (N' : Shared → Prop) (NB : Value → Shared → Prop), (∀ s' σ' H', Inv Y pins σ' H' s' → σ'.length = σ.length → (∀ (j : Nat) v, σ[j]? = some (some v) → j ∉ hdvs rest → σ'[j]? = some (some v)) → N H' → N' s') →
      tailG kd gens scope pos d (.ref D) Y.env Y.A Y.prog Y.w N' NB s
  | [], d, ok, pins, s, σ, H, N, I, h, N', NB, hN => by
    cases ok with
    | nil e =>
      unfold tailG
      rw [e]
      exact thnF (hl pins s σ H N I h) fun _ s' ⟨H', I', n⟩ => hN s' σ H' I' rfl (fun _ _ z _ => z) n
  | c :: r, d, ok, pins, s, σ, H, N, I, h, N', NB, hN => by
    cases ok with
    | cons e hi hg ht hs hv okr =>
    rename_i t i ifs
    unfold tailG
    rw [e]
    have hr := hi.run pins s σ H _ I h
    rw [hx] at hr
    refine thnF hr fun xv s1 hx1 => thnF hx1 fun itv s2 h2 => ?_
    obtain ⟨it, fp, tn, J, H2, e1, I2, T, st2, f2, W, ⟨m0, w0⟩, turn⟩ := h2
    subst e1
    have stat : ∀ {H' : Hp}, (∀ b ∈ fp, H' b = none) → ∀ b ∈ fp, FpOk Y pins H' b := fun hn b hb => ⟨hn b hb, (f2 b hb).2⟩
    have loop1 : codeAny (model Y.prog Y.w) Y.A (.compLoop (kd.ex gens scope pos) (d + 1) (.ref it) (.ref D) Y.env)
        (fun r s' => match r with
          | .ok _ => N' s'
          | .error _ => False) s2 := by
      refine loopG e okr.nxt (fun k s' => ∃ j H', Inv Y pins (wipe σ c.vs) H' s' ∧ tn j s'.heap ∧ (∀ b ∈ fp, H' b = none) ∧ W j k H') ?_ m0 ⟨0, H2, I2.weak (wipe_length _ _) (fun j v e => (wipe_some e).1), st2, fun b hb => (f2 b hb).1, w0⟩
      rintro k s12 ⟨j, H12, I12, st12, n12, w12⟩
      rcases turn j k H12 w12 with ⟨stop1, nx1⟩ | ⟨go1, Nx1, hNx1, step1⟩
      · refine thnF (T.done Y rfl rfl rfl hc j _ s12 (wipe σ c.vs) H12 (fun _ _ => False) I12 (stat n12) st12 stop1) fun r s13 ⟨hr, I13⟩ => ?_
        subst hr
        refine hN s13 _ H12 I13 (wipe_length _ _) (fun j v ej hj => ?_) nx1
        exact (wipe_out (show j ∉ c.vs from hj)).trans ej
      · refine thnF (T.item Y rfl rfl rfl hc j _ s12 (wipe σ c.vs) H12 (fun _ _ => False) I12 (stat n12) st12 go1) fun r s13 ⟨u1, hr, h13⟩ => ?_
        subst hr
        refine thnF h13 fun _ s14 ⟨x1, H14, I14, r14, y14, st14, n14⟩ => ?_
        have I14' := I14.pinned (stat n14) (T.obj _ _ st14)
        have hg1 := hg.run _ s14 (wipe σ c.vs) H14 x1 u1 _ I14' r14 (step1 x1 H14 y14)
        rw [hx] at hg1
        refine thnF hg1 fun _ s15 ⟨σ15, H15, I15, hw15, q15⟩ => ?_
        have ht1 := ht.run _ s15 σ15 H15 _ I15 q15
        rw [hx] at ht1
        refine thnF ht1 fun b1 s16 ⟨H16, I16, q16⟩ => ?_
        have fin1 : ∀ {s' : Shared} {σ' : L2.St} {H' : Hp}, Inv Y (pins ++ pinsAt fp s14.heap) σ' H' s' → σ'.length = σ15.length → (∀ (j : Nat) v, σ15[j]? = some (some v) → j ∉ hdvs r → σ'[j]? = some (some v)) → Nx1 H' →
            ∃ m, m < k ∧ ∃ j H', Inv Y pins (wipe σ c.vs) H' s' ∧ tn j s'.heap ∧ (∀ b ∈ fp, H' b = none) ∧ W j m H' := fun {s' σ' H'} I' hl' hk nx => by
          obtain ⟨m', hm, w'⟩ := hNx1 H' nx
          have pin' : ∀ b ∈ fp, ∀ o, s14.heap.get? b = some o → s'.heap.get? b = some o ∧ H' b = none := fun b hb o e =>
            let z := I'.pin (b, o) (List.mem_append_right _ (List.mem_append_right _ (mem_pinsAt hb e)))
            ⟨z.1, z.2.1⟩
          refine ⟨m', hm, j + 1, H', I'.unpinned.weak (by rw [← hw15, wipe_length, hl']) (fun j v e => ?_), T.keep _ _ _ st14 fun b hb o e => (pin' b hb o e).1, fun b hb => ?_, w'⟩
          · rw [← hw15] at e
            obtain ⟨e2, e3⟩ := wipe_some e
            exact hk j v e2 fun z => e3 (hv j z)
          · obtain ⟨o, e, _⟩ := T.obj _ _ st14 b hb
            exact (pin' b hb o e).2
        cases b1 with
        | false =>
          simp only [Bool.false_eq_true, if_false] at q16 ⊢
          exact fin1 I16 rfl (fun _ _ z _ => z) q16
        | true =>
          simp only [if_true] at q16 ⊢
          exact tail_ok hc hx hl r (d + 1) okr _ s16 σ15 H16 Nx1 I16 q16 _ _ fun s' σ' H' I' hl' hk nx => fin1 I' hl' hk nx
    exact startG e loop1 (T.self Y.A 0 _ _ _ st2 loop1)
end
/-- a new thing to gather in -/
structure Nw (P : Program) (w : World) (newAcc : Sem Value) (ob : Obj) (nw : Addr → HO) : Prop where
  made : ∀ {A : Around} {E : Value → Shared → Prop} {s : Shared} {Q : Value → Shared → Prop}, Q (.ref s.heap.objs.size) { s with heap := s.heap.push ob } → wpAny (model P w) A newAcc Q E s
  ok : ∀ (H : Hp) (h : Heap), sysModules < h.objs.size → ObjOk P w H (h.push ob) h.objs.size (nw h.objs.size)
section
variable {X : Cx}
def tCp (nw : Addr → HO) (last : Addr → TN) (c : Cl) (r : List Cl) : TE := fun σ H Q => c.wi σ H fun J H1 => ∀ D, H1 D = none → ∃ W : Nat → Nat → Hp → Prop, (∃ m, W 0 m (upd H1 D (nw D))) ∧ tLp (tCl (last D) r) c J W σ fun H => Q (.ref D) H
theorem cp_core {pins : List (Addr × Obj)} {s : Shared} {σ : L2.St} {H : Hp} {Q : VK} {kd : CK} {gens : List Comprehension} {tg iter : Expr} {ifs : List Expr} {scope : Scope} {own : List (PySem.Str × Nat)} {pos pos' : Pos} {c : Cl} {r : List Cl} {newAcc : Sem Value} {ob : Obj} {nw : Addr → HO} {last : Addr → TN} {use : Option (Value → Sem Unit)} {Qf : Value → Shared → Prop}
    (hc : X.calm = true) (hN : X.N.Nodup) (N : Nw X.prog X.w newAcc ob nw) (I : Inv X pins σ H s) (hi : PI X tg iter c.wi) (ok : BlkOk X.N X.env.scope scope own) (hvs : c.vs = own.map (·.2)) (hv : ∀ i ∈ hdvs r, i ∈ c.vs)
    (hg : ∀ (s : Shared) (H : Hp) (C : Addr) (cl : List (PySem.Str × Addr)) (fp : List Addr), PG (X.blk s H scope (compEnvC scope cl C X.env) fp) tg c.g) (ht : ∀ (s : Shared) (H : Hp) (C : Addr) (cl : List (PySem.Str × Addr)) (fp : List Addr), PTs (X.blk s H scope (compEnvC scope cl C X.env) fp) ifs c.tt)
    (hr : ∀ (s : Shared) (H : Hp) (C : Addr) (cl : List (PySem.Str × Addr)) (fp : List Addr), ClsOk (X.blk s H scope (compEnvC scope cl C X.env) fp) (⟨tg, iter, ifs, 0⟩ :: gens) 1 r)
    (he : ∀ (s : Shared) (H : Hp) (C : Addr) (cl : List (PySem.Str × Addr)) (fp : List Addr) (D : Addr) (pins : List (Addr × Obj)) (s1 : Shared) (σ : L2.St) (H1 : Hp) (Nx : Hp → Prop), Inv (X.blk s H scope (compEnvC scope cl C X.env) fp) pins σ H1 s1 → last D σ H1 Nx →
      wpAny (model X.prog X.w) X.A (kd.emit (.ref D) (compEnvC scope cl C X.env)) (fun _ s' => ∃ H', Inv (X.blk s H scope (compEnvC scope cl C X.env) fp) pins σ H' s' ∧ Nx H') (fun _ _ => False) s1)
    (hs : ∀ x, foldedSetIterable iter X.env x = pure x)
    (h : tCp nw last c r σ H Q)
    (hRR : ∀ D C s' m H', Inv X pins σ H' s' → Q (.ref D) H' → s'.heap.Ns C m → FpOk X pins H' C → compPost (model X.prog X.w) X.A X.xe use Qf (.ref D) C (.ok .next) s') :
    wpAny (model X.prog X.w) X.A (comprehension (kd.ex (⟨tg, iter, ifs, 0⟩ :: gens) scope pos) scope X.env pos' newAcc false (eval iter X.env) use) Qf X.xe s := by
  have hfree : ∀ y ∈ scope.names, y.2 = .free → ∃ c, X.env.cells.lookup y.1 = some c := fun y hy e => by
    rcases ok.free y hy e with k | k
    · exact I.ok.has _ (.inl k)
    · exact I.ok.has _ (.inr k)
  have hcl : clausesOf (kd.ex (⟨tg, iter, ifs, 0⟩ :: gens) scope pos) = ⟨tg, iter, ifs, 0⟩ :: gens := by cases kd <;> rfl
  refine wpAny_comprehension_free (use := use) hcl hs (closure_ok hfree) ok.kind (fun y hy e => by rw [ok.uniq y hy, e])
    (thn (hi.run pins s σ H _ I h) fun xv s1 hx => thn hx fun itv s2 h2 => ?_)
  obtain ⟨it, fp, tn, J, H2, e, I2, T, st2, f2, q⟩ := h2
  subst e
  refine N.made (newEnv_comp ?_)
  generalize hD : s2.heap.objs.size = D
  have hDn : H2 D = none := I2.hok.fresh (Nat.le_of_eq hD)
  obtain ⟨W, ⟨m0, w0⟩, turn⟩ := q D hDn
  generalize hs3 : ({ s2 with heap := s2.heap.push ob } : Shared) = s3
  have I3 : Inv X pins σ (upd H2 D (nw D)) s3 := by
    rw [← hs3]
    refine I2.laid (t' := s2.toks) (fun b o e => Heap.get?_push_of_some _ e) (Nat.le_of_eq hD) ?_
    rw [← hD]
    exact N.ok _ s2.heap I2.big
  have h3 : s3.heap = s2.heap.push ob := by rw [← hs3]
  have sz : ∀ b ∈ fp, b < s2.heap.objs.size := fun b hb => by
    obtain ⟨o, e, _⟩ := T.obj _ _ st2 b hb
    exact Heap.lt_size e
  have f3 : ∀ b ∈ fp, FpOk X pins (upd H2 D (nw D)) b ∧ b < s3.heap.objs.size := fun b hb => by
    have hlt := sz b hb
    refine ⟨⟨?_, (f2 b hb).2⟩, by rw [h3, Heap.size_push]; exact Nat.lt_succ_of_lt hlt⟩
    rw [upd_ne (by rw [← hD]; exact Nat.ne_of_lt hlt)]
    exact (f2 b hb).1
  have st3 : tn 0 s3.heap := T.keep _ _ _ st2 fun b _ o e => by rw [h3]; exact Heap.get?_push_of_some _ e
  have I4 := block_start I3 ok hN f3
  have pg := hg s3 (upd H2 D (nw D)) s3.heap.objs.size (cellsFrom (s3.heap.objs.size + 1) scope.names (cloFrom X.env.cells scope.names [])) fp
  have pt := ht s3 (upd H2 D (nw D)) s3.heap.objs.size (cellsFrom (s3.heap.objs.size + 1) scope.names (cloFrom X.env.cells scope.names [])) fp
  have pr := hr s3 (upd H2 D (nw D)) s3.heap.objs.size (cellsFrom (s3.heap.objs.size + 1) scope.names (cloFrom X.env.cells scope.names [])) fp
  have pe := he s3 (upd H2 D (nw D)) s3.heap.objs.size (cellsFrom (s3.heap.objs.size + 1) scope.names (cloFrom X.env.cells scope.names [])) fp D
  show codeAny _ _ (.compStart (kd.ex (⟨tg, iter, ifs, 0⟩ :: gens) scope pos) 0 (.ref it) (.ref D) (compEnvC scope (cellsFrom (s3.heap.objs.size + 1) scope.names (cloFrom X.env.cells scope.names [])) s3.heap.objs.size X.env)) (compPost (model X.prog X.w) X.A X.xe use Qf (.ref D) s3.heap.objs.size) { s3 with heap := pushCells (s3.heap.push { cls := .type "dict", data := .dict #[] }) scope.names }
  have nfp : ∀ b ∈ fp, (upd H2 D (nw D)) b = none := fun b hb => (f3 b hb).1.1
  generalize hce : compEnvC scope (cellsFrom (s3.heap.objs.size + 1) scope.names (cloFrom X.env.cells scope.names [])) s3.heap.objs.size X.env = ce at I4 pg pt pe pr ⊢
  have cL : ce.locals = s3.heap.objs.size := by subst hce; rfl
  generalize hH3 : upd H2 D (nw D) = H3 at I3 I4 pg pt pe pr w0 nfp f3
  generalize hs4 : ({ s3 with heap := pushCells (s3.heap.push { cls := .type "dict", data := .dict #[] }) scope.names } : Shared) = s4 at I4 ⊢
  have st4 : tn 0 s4.heap := T.keep _ _ _ st3 fun b _ o e => by rw [← hs4]; exact pushCells_keeps _ _ _ _ (Heap.get?_push_of_some _ e)
  have stat : ∀ {σ' : L2.St} {H' : Hp} {s' : Shared}, Inv (X.blk s3 H3 scope ce fp) [] σ' H' s' → (∀ b ∈ fp, H' b = none) → ∀ b ∈ fp, FpOk (X.blk s3 H3 scope ce fp) [] H' b := fun {σ' H' s'} I' hn b hb =>
    ⟨hn b hb, (I'.ok.exf b hb).1, I'.ok.exfs b hb, .inl hb, fun x c e => (I'.ok.exf b hb).2 x c e, fun p hp => absurd (show p ∈ ([] : List (Addr × Obj)) ++ [] from hp) (by simp)⟩
  have loop : codeAny (model X.prog X.w) X.A (.compLoop (kd.ex (⟨tg, iter, ifs, 0⟩ :: gens) scope pos) 0 (.ref it) (.ref D) ce) (compPost (model X.prog X.w) X.A X.xe use Qf (.ref D) s3.heap.objs.size) s4 := by
    refine loopG (t0 := tg) (i0 := iter) (ifs0 := ifs) rfl pr.nxt (fun n s' => ∃ i H', Inv (X.blk s3 H3 scope ce fp) [] (wipe σ c.vs) H' s' ∧ tn i s'.heap ∧ (∀ b ∈ fp, H' b = none) ∧ W i n H') ?_ m0 ⟨0, H3, by rw [hvs]; exact I4, st4, nfp, w0⟩
    rintro n s5 ⟨i, H5, I5, st5, n5, w5⟩
    rcases turn i n H5 w5 with ⟨stop, qq⟩ | ⟨go, Nx, hNx, step⟩
    · have td := T.done (X.blk s3 H3 scope ce fp) rfl rfl rfl hc i [] s5 _ H5 (fun _ _ => False) I5 (stat I5 n5) st5 stop
      refine thnF td fun r s6 ⟨hr, I6⟩ => ?_
      subst hr
      -- back in the def's context
      have I7 : Inv X pins σ H5 s6 := I3.call' (ch := fp) I6.os I6.base I6.hok I6.bare fun b hb => ⟨(f3 b hb).1.2.2.2.1, (f3 b hb).1.2.1, (f3 b hb).1.2.2.2.2.1, (f3 b hb).1.2.2.2.2.2⟩
      have nC : H5 s3.heap.objs.size = none := by
        have z : H5 ce.locals = none := I6.free
        rw [cL] at z
        exact z
      obtain ⟨m, hn, _⟩ := I6.loc
      have hn : s6.heap.Ns ce.locals m := hn
      rw [cL] at hn
      exact hRR D s3.heap.objs.size s6 m H5 I7 qq hn (I3.fpOk (Nat.le_refl _) nC)
    · have ti := T.item (X.blk s3 H3 scope ce fp) rfl rfl rfl hc i [] s5 _ H5 (fun _ _ => False) I5 (stat I5 n5) st5 go
      refine thnF ti fun r s6 ⟨u, hr, h6⟩ => ?_
      subst hr
      refine thnF h6 fun _ s7 ⟨x, H7, I7, r7, y7, st7, n7⟩ => ?_
      have I7' := I7.pinned (stat I7 n7) (T.obj _ _ st7)
      refine thnF (pg.run _ s7 _ H7 x u _ I7' r7 (step x H7 y7)) fun _ s8 ⟨σ8, H8, I8, hw8, q8⟩ => ?_
      refine thnF (pt.run _ s8 σ8 H8 _ I8 q8) fun b s9 ⟨H9, I9, q9⟩ => ?_
      -- the turn's end, from any slots that know what the block knew at its start
      have fin : ∀ {σ9 : L2.St} {s' : Shared} {H' : Hp}, Inv (X.blk s3 H3 scope ce fp) ([] ++ pinsAt fp s7.heap) σ9 H' s' → (wipe σ c.vs).length = σ9.length → (∀ (j : Nat) v, (wipe σ c.vs)[j]? = some (some v) → σ9[j]? = some (some v)) → Nx H' →
          ∃ m, m < n ∧ ∃ i H', Inv (X.blk s3 H3 scope ce fp) [] (wipe σ c.vs) H' s' ∧ tn i s'.heap ∧ (∀ b ∈ fp, H' b = none) ∧ W i m H' := fun {σ9 s' H'} I' hl hk nx => by
        obtain ⟨m', hm, w'⟩ := hNx H' nx
        have pin' : ∀ b ∈ fp, ∀ o, s7.heap.get? b = some o → s'.heap.get? b = some o ∧ H' b = none := fun b hb o e =>
          let z := I'.pin (b, o) (List.mem_append_right _ (List.mem_append_right _ (mem_pinsAt hb e)))
          ⟨z.1, z.2.1⟩
        refine ⟨m', hm, i + 1, H', (I'.unpinned (pins := [])).weak hl hk, T.keep _ _ _ st7 fun b hb o e => (pin' b hb o e).1, fun b hb => ?_, w'⟩
        obtain ⟨o, e, _⟩ := T.obj _ _ st7 b hb
        exact (pin' b hb o e).2
      have hl8 : (wipe σ c.vs).length = σ8.length := by rw [← hw8, wipe_length]
      have hk8 : ∀ (j : Nat) v, (wipe σ c.vs)[j]? = some (some v) → σ8[j]? = some (some v) := fun j v e => by
        rw [← hw8] at e
        exact (wipe_some e).1
      cases b with
      | false =>
        simp only [Bool.false_eq_true, if_false] at q9 ⊢
        exact fin I9 hl8 hk8 q9
      | true =>
        simp only [if_true] at q9 ⊢
        refine tail_ok (Y := X.blk s3 H3 scope ce fp) hc rfl pe r 0 pr _ s9 σ8 H9 Nx I9 q9 _ _ fun s' σ' H' I' hl' hk nx => fin I' (hl8.trans hl'.symm) (fun j v e => ?_) nx
        rw [← hw8] at e
        obtain ⟨e2, e3⟩ := wipe_some e
        exact hk j v e2 fun z => e3 (hv j z)
  exact startG (t0 := tg) (i0 := iter) (ifs0 := ifs) rfl loop (T.self X.A 0 _ _ _ st4 loop)
end
end DI

/-! DC3: lists, sets of ints, dicts by comprehensions. -/
namespace DI
open PySem PySem.Spec PyProof.Rows L2
section
variable {X Y : Cx} {P : Program} {w : World}
theorem nw_list : Nw P w (newList []) { cls := .type "list", data := .seq ([] : List Value).toArray } (fun _ => .lst []) where
  made := fun h => wpAny_newObj_type h (by show 0 ≤ sizeLine; decide)
  ok := fun H h _ => ⟨Nat.zero_le _, [], 0, .nil, Heap.get?_push_size _ rfl⟩
theorem nw_dict : Nw P w newDict { cls := .type "dict", data := .dict #[] } (fun _ => .dK []) where
  made := fun h => wpAny_newObj_type h
  ok := fun H h hb => dk_empty h hb
theorem nw_set : Nw P w (newSet (.type "set")) { cls := .type "set", dict := none, data := .set #[] 0 (.fresh 0 0 (!w.params.followText "set-order")) } (fun D => SetO w D (fun _ => false) 0) where
  made := fun h => PpSet.newSet_ok h
  ok := fun H h _ => setO_new (setR_fresh w)
def lastL (te : TE) (D : Addr) : TN := fun σ H N => te σ H fun y H7 => ∃ acc, H7 D = some (.lst acc) ∧ acc.length < sizeLine ∧ N (upd H7 D (.lst (acc ++ [y])))
def lastS (w : World) (te : TE) (D : Addr) : TN := fun σ H N => te σ H fun y H7 => ∃ (k : Int) (S : Int → Bool) (n : Nat), y = .int k ∧ H7 D = some (SetO w D S n) ∧ n + 1 < scanBound ∧ N (upd H7 D (SetO w D (fun j => S j || decide (j = k)) (if S k = true then n else n + 1)))
def lastD (tk tv : TE) (D : Addr) : TN := fun σ H N => tk σ H fun y H4 => tv σ H4 fun z H5 => ∃ kvs k, y = kV k ∧ H5 D = some (.dK kvs) ∧ kvs.length < sizeLine ∧ N (upd H5 D (.dK (putK kvs k z)))
theorem emit_list {elt : Expr} {te : TE} {D : Addr} (hx : Y.xe = fun _ _ => False) (he : PE Y elt te) {pins : List (Addr × Obj)} {s : Shared} {σ : L2.St} {H : Hp} {N : Hp → Prop} (I : Inv Y pins σ H s) (h : lastL te D σ H N) :
    wpAny (model Y.prog Y.w) Y.A ((CK.list elt).emit (.ref D) Y.env) (fun _ s' => ∃ H', Inv Y pins σ H' s' ∧ N H') (fun _ _ => False) s := by
  have hr := he.run pins s σ H _ I h
  rw [hx] at hr
  show wpAny _ _ (eval elt Y.env >>= fun x => call (.builtin "list.append") [.ref D, x] >>= fun _ => pure ()) _ _ s
  refine wpAny_bind (thnF hr fun z s1 ⟨yv, H1, I1, r1, acc, hD, hz, nx⟩ => wpAny_bind (app_ok I1 hD hz r1 fun s2 I2 => wpAny_pure ⟨_, I2, nx⟩))
theorem emit_set {elt : Expr} {te : TE} {D : Addr} (hx : Y.xe = fun _ _ => False) (he : PE Y elt te) {pins : List (Addr × Obj)} {s : Shared} {σ : L2.St} {H : Hp} {N : Hp → Prop} (I : Inv Y pins σ H s) (h : lastS Y.w te D σ H N) :
    wpAny (model Y.prog Y.w) Y.A ((CK.set elt).emit (.ref D) Y.env) (fun _ s' => ∃ H', Inv Y pins σ H' s' ∧ N H') (fun _ _ => False) s := by
  have hr := he.run pins s σ H _ I h
  rw [hx] at hr
  show wpAny _ _ (eval elt Y.env >>= fun x => standAt elt.pos >>= fun _ => call (.builtin "set.add") [.ref D, x] >>= fun _ => pure ()) _ _ s
  refine wpAny_bind (thnF hr fun z s1 ⟨yv, H1, I1, r1, k, S, n, ey, hD, hz, nx⟩ => wpAny_bind (wpAny_standAt (wpAny_bind ?_)))
  subst ey
  obtain ⟨tk, rfl⟩ := r1
  have R := setO_get I1 hD
  refine setR_add R hz fun h' sb new => wpAny_pure ?_
  have he : ∃ u, h'.get? D = some u := by
    have ⟨o, _, _, _, ho, _⟩ := new
    exact ⟨o, ho⟩
  exact ⟨_, I1.write (e := D) (t' := s1.toks + 1) (by rw [hD]; trivial) (.inl rfl) (fun b u hb hu => (sb.2 b hb).trans hu) he (setO_new new), nx⟩
theorem emit_dict {kx vx : Expr} {tk tv : TE} {D : Addr} (hx : Y.xe = fun _ _ => False) (hk : PE Y kx tk) (he : PE Y vx tv) {pins : List (Addr × Obj)} {s : Shared} {σ : L2.St} {H : Hp} {N : Hp → Prop} (I : Inv Y pins σ H s) (h : lastD tk tv D σ H N) :
    wpAny (model Y.prog Y.w) Y.A ((CK.dict kx vx).emit (.ref D) Y.env) (fun _ s' => ∃ H', Inv Y pins σ H' s' ∧ N H') (fun _ _ => False) s := by
  have hr := hk.run pins s σ H _ I h
  rw [hx] at hr
  show wpAny _ _ (eval kx Y.env >>= fun kv => holding [kv] (eval vx Y.env) >>= fun vv => standAt _ >>= fun _ => holding [kv, vv] (dictSet D kv vv)) _ _ s
  refine wpAny_bind (thnF hr fun z s1 ⟨yk, H1, I1, r1, q1⟩ => wpAny_bind (wpAny_holding ?_))
  have hr2 := he.run pins s1 σ H1 _ I1 q1
  rw [hx] at hr2
  refine thnF hr2 fun z2 s2 ⟨yv, H2, I2, r2, kvs, k, ek, hD, hz, nx⟩ => wpAny_bind (wpAny_standAt (wpAny_holding ?_))
  subst ek
  exact d_dictSet I2 hD hz r1 r2 fun s3 I3 => ⟨_, I3, nx⟩
end
/-- the readings of the later clauses, in every block -/
inductive BCls (X : Cx) (scope : Scope) : List Comprehension → List Cl → Prop
  | nil : BCls X scope [] []
  | cons {t i : Expr} {ifs : List Expr} {gens : List Comprehension} {c : Cl} {r : List Cl} : (∀ (s : Shared) (H : Hp) (C : Addr) (cl : List (PySem.Str × Addr)) (fp : List Addr), PI (X.blk s H scope (compEnvC scope cl C X.env) fp) t i c.wi ∧ PG (X.blk s H scope (compEnvC scope cl C X.env) fp) t c.g ∧ PTs (X.blk s H scope (compEnvC scope cl C X.env) fp) ifs c.tt) →
      (∀ env x, foldedSetIterable i env x = pure x) → (∀ i ∈ hdvs r, i ∈ c.vs) → BCls X scope gens r → BCls X scope (⟨t, i, ifs, 0⟩ :: gens) (c :: r)
theorem BCls.ok {X : Cx} {scope : Scope} {s : Shared} {H : Hp} {C : Addr} {cl : List (PySem.Str × Addr)} {fp : List Addr} : ∀ {gens : List Comprehension} {r : List Cl} (pre : List Comprehension), BCls X scope gens r → ClsOk (X.blk s H scope (compEnvC scope cl C X.env) fp) (pre ++ gens) pre.length r
  | _, _, pre, .nil => .nil (by simp)
  | _, _, pre, .cons (t := t) (i := i) (ifs := ifs) (gens := gens) (c := c) (r := r) h hs hv t' => by
    obtain ⟨a, b, d⟩ := h s H C cl fp
    refine .cons (t := t) (i := i) (ifs := ifs) (by simp) a b d (hs _) hv ?_
    have := BCls.ok (s := s) (H := H) (C := C) (cl := cl) (fp := fp) (pre ++ [⟨t, i, ifs, 0⟩]) t'
    simpa using this
section
variable {X : Cx} {tg iter : Expr} {ifs : List Expr} {gens : List Comprehension} {scope : Scope} {own : List (PySem.Str × Nat)} {pos : Pos} {c : Cl} {r : List Cl}
theorem pe_cp {kd : CK} {newAcc : Sem Value} {ob : Obj} {nw : Addr → HO} {last : Addr → TN} (hc : X.calm = true) (hN : X.N.Nodup) (N : Nw X.prog X.w newAcc ob nw)
    (hev : eval (kd.ex (⟨tg, iter, ifs, 0⟩ :: gens) scope pos) X.env = comprehension (kd.ex (⟨tg, iter, ifs, 0⟩ :: gens) scope pos) scope X.env (firstIterPos (⟨tg, iter, ifs, 0⟩ :: gens) pos) newAcc false (eval iter X.env))
    (hi : PI X tg iter c.wi) (ok : BlkOk X.N X.env.scope scope own) (hvs : c.vs = own.map (·.2)) (hv : ∀ i ∈ hdvs r, i ∈ c.vs)
    (hg : ∀ (s : Shared) (H : Hp) (C : Addr) (cl : List (PySem.Str × Addr)) (fp : List Addr), PG (X.blk s H scope (compEnvC scope cl C X.env) fp) tg c.g) (ht : ∀ (s : Shared) (H : Hp) (C : Addr) (cl : List (PySem.Str × Addr)) (fp : List Addr), PTs (X.blk s H scope (compEnvC scope cl C X.env) fp) ifs c.tt)
    (hr : BCls X scope gens r)
    (he : ∀ (s : Shared) (H : Hp) (C : Addr) (cl : List (PySem.Str × Addr)) (fp : List Addr) (D : Addr) (pins : List (Addr × Obj)) (s1 : Shared) (σ : L2.St) (H1 : Hp) (Nx : Hp → Prop), Inv (X.blk s H scope (compEnvC scope cl C X.env) fp) pins σ H1 s1 → last D σ H1 Nx →
      wpAny (model X.prog X.w) X.A (kd.emit (.ref D) (compEnvC scope cl C X.env)) (fun _ s' => ∃ H', Inv (X.blk s H scope (compEnvC scope cl C X.env) fp) pins σ H' s' ∧ Nx H') (fun _ _ => False) s1)
    (hs : ∀ x, foldedSetIterable iter X.env x = pure x) : PE X (kd.ex (⟨tg, iter, ifs, 0⟩ :: gens) scope pos) (tCp nw last c r) := by
  refine ⟨fun pins s σ H Q I h => ?_⟩
  rw [hev]
  refine cp_core hc hN N I hi ok hvs hv hg ht (fun s H C cl fp => BCls.ok (s := s) (H := H) (C := C) (cl := cl) (fp := fp) [⟨tg, iter, ifs, 0⟩] hr) he hs h fun D C s' m H' I' q hn f => ⟨m, hn, fun h'' sb => ?_⟩
  obtain ⟨f0, f1, f2, f3, f4, f5⟩ := f
  exact ⟨.ref D, H', I'.turned (t' := s'.toks) (fun b o hb e => (sb.2 b hb).trans e) f0 f1 f3 f4 f5, rfl, q⟩
theorem pe_cpL {elt : Expr} {te : TE} (hc : X.calm = true) (hN : X.N.Nodup) (hi : PI X tg iter c.wi) (ok : BlkOk X.N X.env.scope scope own) (hvs : c.vs = own.map (·.2)) (hv : ∀ i ∈ hdvs r, i ∈ c.vs)
    (hg : ∀ (s : Shared) (H : Hp) (C : Addr) (cl : List (PySem.Str × Addr)) (fp : List Addr), PG (X.blk s H scope (compEnvC scope cl C X.env) fp) tg c.g) (ht : ∀ (s : Shared) (H : Hp) (C : Addr) (cl : List (PySem.Str × Addr)) (fp : List Addr), PTs (X.blk s H scope (compEnvC scope cl C X.env) fp) ifs c.tt)
    (hr : BCls X scope gens r) (he : ∀ (s : Shared) (H : Hp) (C : Addr) (cl : List (PySem.Str × Addr)) (fp : List Addr), PE (X.blk s H scope (compEnvC scope cl C X.env) fp) elt te) (hs : ∀ x, foldedSetIterable iter X.env x = pure x) :
    PE X (.ListComp elt (⟨tg, iter, ifs, 0⟩ :: gens) scope pos) (tCp (fun _ => .lst []) (lastL te) c r) :=
  pe_cp (kd := .list elt) hc hN nw_list rfl hi ok hvs hv hg ht hr (fun s H C cl fp D pins s1 σ H1 Nx I h => emit_list (Y := X.blk s H scope (compEnvC scope cl C X.env) fp) rfl (he s H C cl fp) I h) hs
theorem pe_cpS {elt : Expr} {te : TE} (hc : X.calm = true) (hN : X.N.Nodup) (hi : PI X tg iter c.wi) (ok : BlkOk X.N X.env.scope scope own) (hvs : c.vs = own.map (·.2)) (hv : ∀ i ∈ hdvs r, i ∈ c.vs)
    (hg : ∀ (s : Shared) (H : Hp) (C : Addr) (cl : List (PySem.Str × Addr)) (fp : List Addr), PG (X.blk s H scope (compEnvC scope cl C X.env) fp) tg c.g) (ht : ∀ (s : Shared) (H : Hp) (C : Addr) (cl : List (PySem.Str × Addr)) (fp : List Addr), PTs (X.blk s H scope (compEnvC scope cl C X.env) fp) ifs c.tt)
    (hr : BCls X scope gens r) (he : ∀ (s : Shared) (H : Hp) (C : Addr) (cl : List (PySem.Str × Addr)) (fp : List Addr), PE (X.blk s H scope (compEnvC scope cl C X.env) fp) elt te) (hs : ∀ x, foldedSetIterable iter X.env x = pure x) :
    PE X (.SetComp elt (⟨tg, iter, ifs, 0⟩ :: gens) scope pos) (tCp (fun D => SetO X.w D (fun _ => false) 0) (lastS X.w te) c r) :=
  pe_cp (kd := .set elt) hc hN nw_set rfl hi ok hvs hv hg ht hr (fun s H C cl fp D pins s1 σ H1 Nx I h => emit_set (Y := X.blk s H scope (compEnvC scope cl C X.env) fp) rfl (he s H C cl fp) I h) hs
theorem pe_cpD {kx vx : Expr} {tk tv : TE} (hc : X.calm = true) (hN : X.N.Nodup) (hi : PI X tg iter c.wi) (ok : BlkOk X.N X.env.scope scope own) (hvs : c.vs = own.map (·.2)) (hv : ∀ i ∈ hdvs r, i ∈ c.vs)
    (hg : ∀ (s : Shared) (H : Hp) (C : Addr) (cl : List (PySem.Str × Addr)) (fp : List Addr), PG (X.blk s H scope (compEnvC scope cl C X.env) fp) tg c.g) (ht : ∀ (s : Shared) (H : Hp) (C : Addr) (cl : List (PySem.Str × Addr)) (fp : List Addr), PTs (X.blk s H scope (compEnvC scope cl C X.env) fp) ifs c.tt)
    (hr : BCls X scope gens r) (hk : ∀ (s : Shared) (H : Hp) (C : Addr) (cl : List (PySem.Str × Addr)) (fp : List Addr), PE (X.blk s H scope (compEnvC scope cl C X.env) fp) kx tk)
    (he : ∀ (s : Shared) (H : Hp) (C : Addr) (cl : List (PySem.Str × Addr)) (fp : List Addr), PE (X.blk s H scope (compEnvC scope cl C X.env) fp) vx tv) (hs : ∀ x, foldedSetIterable iter X.env x = pure x) :
    PE X (.DictComp kx vx (⟨tg, iter, ifs, 0⟩ :: gens) scope pos) (tCp (fun _ => .dK []) (lastD tk tv) c r) :=
  pe_cp (kd := .dict kx vx) hc hN nw_dict rfl hi ok hvs hv hg ht hr (fun s H C cl fp D pins s1 σ H1 Nx I h => emit_dict (Y := X.blk s H scope (compEnvC scope cl C X.env) fp) rfl (hk s H C cl fp) (he s H C cl fp) I h) hs
end
end DI

/-! DC4: comprehensions of several clauses hold what the interpreter tells. -/
namespace DI
open PySem PySem.Spec PyProof.Rows L2
/-- what is gathered so far -/
def AQ (K : PySem.W.Frag) (w : World) (D : Addr) : Kp → HO → Hp → List Addr → List PyData → Prop
  | .list, u, H, O, acc => ∃ vs, u = .lst vs ∧ DqA K H O acc vs
  | .sset, u, _, _, acc => ∃ (ns : List Int) (S : Int → Bool) (n : Nat), u = SetO w D S n ∧ (∀ j, S j = true ↔ j ∈ ns) ∧ n ≤ ns.length ∧ acc = ns.map .int
  | .sdict, u, _, _, acc => ∃ (ns : List Int) (kvs : List (L2.Key × V)) (ks : List Int), u = .dK kvs ∧ kvs.map (·.1) = ks.map Sum.inl ∧ ks.Nodup ∧ (∀ x, x ∈ ks ↔ x ∈ ns) ∧ ks.length ≤ ns.length ∧ acc = ns.map .int
def finOk : Kp → List PyData → Prop
  | .list, ys => ys.length ≤ limLen
  | _, ys => ∃ ns : List Int, ys = ns.map .int ∧ ns.length < 64
theorem finOk_pre {k : Kp} {xs ys : List PyData} (h : finOk k (xs ++ ys)) : finOk k xs := by
  have key : ∀ ns : List Int, xs ++ ys = ns.map .int → ns.length < 64 → ∃ ms : List Int, xs = ms.map .int ∧ ms.length < 64 := fun ns e l => by
    refine ⟨ns.take xs.length, ?_, Nat.lt_of_le_of_lt (by rw [List.length_take]; exact Nat.min_le_right _ _) l⟩
    rw [List.map_take, ← e, List.take_left]
  cases k with
  | list =>
    have h' : (xs ++ ys).length ≤ limLen := h
    rw [List.length_append] at h'
    exact (show xs.length ≤ limLen by omega)
  | sset =>
    obtain ⟨ns, e, l⟩ := h
    exact key ns e l
  | sdict =>
    obtain ⟨ns, e, l⟩ := h
    exact key ns e l
theorem intsD_eq : ∀ {xs : List PyData} {ns : List Int}, intsD xs = some ns → xs = ns.map .int
  | [], ns, h => by cases h; rfl
  | x :: r, ns, h => by
    cases x <;> first | (cases h; done) | skip
    obtain ⟨ms, h1, rfl⟩ := Option.map_eq_some_iff.mp (show (intsD r).map (_ :: ·) = some ns from h)
    rw [intsD_eq h1]
    rfl
theorem fin_ok {k : Kp} {ys : List PyData} {r : R} (h : finK k ys = some r) : finOk k ys := by
  have key : (ssetD ys).map R.l = some r → ∃ ns : List Int, ys = ns.map .int ∧ ns.length < 64 := fun h => by
    obtain ⟨zs, h1, _⟩ := Option.map_eq_some_iff.mp h
    unfold ssetD at h1
    obtain ⟨ns, h2, h3⟩ := Option.bind_eq_some_iff.mp h1
    split at h3
    · rename_i l
      exact ⟨ns, intsD_eq h2, l⟩
    · cases h3
  cases k with
  | list =>
    have h' : (if ys.length ≤ limLen then some (R.l ys) else none) = some r := h
    split at h'
    · assumption
    · cases h'
  | sset => exact key h
  | sdict => exact key h
section
variable {K : PySem.W.Frag} {w : World} {D : Addr} {H H' : Hp} {O O' : List Addr} {u : HO} {acc : List PyData}
theorem AQ.ext {k : Kp} (ow : Ow H O) (x : Ext H O H' O') (h : AQ K w D k u H O acc) : AQ K w D k u H' O' acc := by
  cases k with
  | list =>
    obtain ⟨vs, e, d⟩ := h
    exact ⟨vs, e, DqA.ext ow x d⟩
  | sset => exact h
  | sdict => exact h
theorem AQ.own {k : Kp} (h : AQ K w D k u H O acc) : ownO u = true := by
  cases k with
  | list =>
    obtain ⟨vs, e, d⟩ := h
    rw [e]; rfl
  | sset =>
    obtain ⟨ns, S, n, e, _⟩ := h
    rw [e]; rfl
  | sdict =>
    obtain ⟨ns, kvs, ks, e, _⟩ := h
    rw [e]; rfl
end
def newK (w : World) : Kp → Addr → HO
  | .list, _ => .lst []
  | .sset, D => SetO w D (fun _ => false) 0
  | .sdict, _ => .dK []
theorem AQ.new {K : PySem.W.Frag} {w : World} {D : Addr} {H : Hp} {O : List Addr} (k : Kp) : AQ K w D k (newK w k D) H O [] := by
  cases k with
  | list => exact ⟨[], rfl, .nil⟩
  | sset => exact ⟨[], _, 0, rfl, fun j => by simp, Nat.le_refl _, rfl⟩
  | sdict => exact ⟨[], [], [], rfl, rfl, List.nodup_nil, fun x => Iff.rfl, Nat.le_refl _, rfl⟩
section
variable {K : PySem.W.Frag} {H' H1 H2 : Hp} {O' O1 O2 : List Addr} {ρ' ρ2 ρw : Rho} {σ' σ2 σw : L2.St} {vs L : List Nat} {D : Addr}
theorem Bz.upd (rpw : Rp K H1 O1 ρw σw) (hD : H1 D = none) (b : Bz K H1 O1 ρw σw D vs H' O' ρ' σ') {u : HO} (hu : ownO u = true) : Bz K H1 O1 ρw σw D vs (L2.upd H' D u) O' ρ' σ' where
  st := b.st.trans (Stp.wr (p := D)) (fun a z => .inr (by rw [z]; exact hD)) rpw.dom
  rp := b.rp.step (Stp.wr (p := D)) (fun a z => by rw [z]; exact ⟨b.mem, b.nd⟩) (b.rp.dom.upd hu)
  own := b.own
  nd := b.nd
  mem := b.mem
  ls := b.ls
theorem Bz.updExt (b : Bz K H1 O1 ρw σw D vs H' O' ρ' σ') {u : HO} : Ext H' O' (L2.upd H' D u) O' := (Stp.wr (p := D)).ext fun a z => by rw [z]; exact b.mem
end
def lastK (X : Cx) (te : TE) (D : Addr) : Kp → TN
  | .list => lastL te D
  | .sset => lastS X.w te D
  | .sdict => lastD te (tC (.bl true)) D
section
variable {X : Cx} {Φ : Phi} {scope : Scope} {elt : Expr} {celt : CE}
variable {H1 : Hp} {O1 : List Addr} {ρw : Rho} {σw : L2.St} {vs : List Nat} {D : Addr}
theorem ints_snoc {acc rest : List PyData} {y : PyData} {ms ns : List Int} (h : acc ++ y :: rest = ms.map PyData.int) (e : acc = ns.map .int) : ∃ i, y = .int i ∧ ns.length < ms.length := by
  subst e
  have hl := congrArg List.length h
  simp only [List.length_append, List.length_map, List.length_cons] at hl
  have h2 : (ns.map PyData.int ++ y :: rest)[ns.length]? = some y := by
    rw [List.getElem?_append_right (by simp)]
    simp
  rw [h, List.getElem?_map] at h2
  cases hm : ms[ns.length]? with
  | none => rw [hm] at h2; cases h2
  | some i =>
    rw [hm] at h2
    cases h2
    exact ⟨i, rfl, by omega⟩
theorem last_ok {k : Kp} (he : InB X scope fun Y => OkE Y Φ celt elt) {ρ ρ' : Rho} {r : R} {y : PyData} (hv : ev Φ celt ρ = some (r, ρ')) (hy : toD r = some y) {σ : L2.St} {H : Hp} {O : List Addr} {acc rest : List PyData} {u : HO}
    (hf : finOk k (acc ++ y :: rest)) (rpw : Rp X.K H1 O1 ρw σw) (hD : H1 D = none) (b : Bz X.K H1 O1 ρw σw D vs H O ρ σ) (hu : H D = some u) (q : AQ X.K X.w D k u H O acc) {N : Hp → Prop}
    (hN : ∀ H' O' u', Bz X.K H1 O1 ρw σw D vs H' O' ρ' σ → Ext H O H' O' → H' D = some u' → AQ X.K X.w D k u' H' O' (acc ++ [y]) → N H') : lastK X (bwp X scope elt) D k σ H N := by
  cases k with
  | list =>
    intro s H0 C cl fp
    refine (he s H0 C cl fp).data hv hy b.rp fun v H2 O2 n d => ?_
    have b2 := b.nx rpw n
    have D2 := b.nxD n hu
    obtain ⟨ws, e, da⟩ := q.ext b.rp.dom (b.ext n)
    subst e
    have hf' : (acc ++ y :: rest).length ≤ limLen := hf
    rw [List.length_append, List.length_cons] at hf'
    refine ⟨ws, D2, by rw [← da.length]; exact Nat.lt_of_lt_of_le (show acc.length < limLen by omega) (by decide), hN _ O2 _ (b2.upd rpw hD rfl) ((b.ext n).comp b2.updExt) upd_same ⟨_, rfl, ?_⟩⟩
    exact DqA.append (DqA.ext b2.rp.dom b2.updExt da) (.cons (Dq.ext b2.rp.dom b2.updExt d) .nil)
  | sset =>
    intro s H0 C cl fp
    obtain ⟨ms, em, hm⟩ := hf
    obtain ⟨ns, S, n, e, hS, hn, ea⟩ := q
    obtain ⟨i, ei, hi⟩ := ints_snoc em ea
    subst ei
    refine (he s H0 C cl fp).data hv hy b.rp fun v H2 O2 n2 d => ?_
    have b2 := b.nx rpw n2
    have D2 := b.nxD n2 hu
    subst e
    cases d
    refine ⟨i, S, n, rfl, D2, by unfold scanBound; omega, hN _ O2 _ (b2.upd rpw hD rfl) ((b.ext n2).comp b2.updExt) upd_same ⟨ns ++ [i], _, _, rfl, fun j => ?_, ?_, by rw [ea, List.map_append]; rfl⟩⟩
    · rw [Bool.or_eq_true, hS, decide_eq_true_iff, List.mem_append, List.mem_singleton]
    · rw [List.length_append, List.length_singleton]
      split <;> omega
  | sdict =>
    intro s H0 C cl fp
    obtain ⟨ms, em, hm⟩ := hf
    obtain ⟨ns, kvs, ks, e, hk, hd, hmem, hlen, ea⟩ := q
    obtain ⟨i, ei, hi⟩ := ints_snoc em ea
    subst ei
    refine (he s H0 C cl fp).data hv hy b.rp fun v H2 O2 n2 d => ?_
    have b2 := b.nx rpw n2
    have D2 := b.nxD n2 hu
    subst e
    cases d
    have hl : kvs.length = ks.length := by
      have := congrArg List.length hk
      simpa using this
    refine ⟨kvs, Sum.inl i, rfl, D2, by rw [hl]; unfold sizeLine; omega, hN _ O2 _ (b2.upd rpw hD rfl) ((b.ext n2).comp b2.updExt) upd_same ?_⟩
    have hv : (valV kvs (Sum.inl i : L2.Key)).isSome = decide (i ∈ ks) := by
      rw [← valV_any]
      have : (kvs.any fun kv => decide (kv.1 = (Sum.inl i : L2.Key))) = ((kvs.map (·.1)).any fun k => decide (k = (Sum.inl i : L2.Key))) := by rw [List.any_map]; rfl
      rw [this, hk, List.any_map]
      by_cases z : i ∈ ks
      · rw [decide_eq_true z, List.any_eq_true]
        exact ⟨i, z, by simp⟩
      · rw [decide_eq_false z, List.any_eq_false]
        intro j hj
        simp only [Function.comp]
        rw [decide_eq_true_iff]
        intro h
        cases h
        exact z hj
    by_cases z : i ∈ ks
    · rw [decide_eq_true z] at hv
      have hput : (putK kvs (Sum.inl i : L2.Key) (.bl true)).map (·.1) = kvs.map (·.1) := by
        unfold putK
        rw [if_pos (by rw [valV_any]; exact hv), List.map_map]
        refine List.map_congr_left fun kv _ => ?_
        simp only [Function.comp]
        split <;> rfl
      refine ⟨ns ++ [i], _, ks, rfl, by rw [hput, hk], hd, fun x => ?_, by rw [List.length_append]; omega, by rw [ea, List.map_append]; rfl⟩
      rw [List.mem_append, List.mem_singleton, ← hmem]
      exact ⟨.inl, fun h => h.elim id fun e => e ▸ z⟩
    · rw [decide_eq_false z] at hv
      have hnone : valV kvs (Sum.inl i : L2.Key) = none := by
        cases e : valV kvs (Sum.inl i : L2.Key) with
        | none => rfl
        | some _ => rw [e] at hv; cases hv
      refine ⟨ns ++ [i], _, ks ++ [i], rfl, by rw [putK_new _ hnone, List.map_append, hk, List.map_append]; rfl, ?_, fun x => ?_, by rw [List.length_append, List.length_append]; simp only [List.length_singleton]; omega, by rw [ea, List.map_append]; rfl⟩
      · rw [List.nodup_append]
        exact ⟨hd, by simp, fun a ha b hb => by rw [List.mem_singleton] at hb; subst hb; exact fun e => z (e ▸ ha)⟩
      · rw [List.mem_append, List.mem_append, hmem]
/-- the later clauses and their texts -/
inductive CpT (X : Cx) (Φ : Phi) (scope : Scope) (celt : CE) : CCs → List Comprehension → List Cl → Prop
  | last : CpT X Φ scope celt (.last celt) [] []
  | cons {own : List Nat} {t : CT} {it : CI} {ifs : CEs} {r : CCs} {tg iter : Expr} {es : List Expr} {gens : List Comprehension} {cls : List Cl} {pr : Bool} : (InB X scope fun Y => OkI Y Φ pr it tg iter) → (InB X scope fun Y => OkG Y pr [] t tg) → (InB X scope fun Y => OkTs Y Φ ifs es) →
      (∀ i ∈ t.sl, i ∈ own) → (∀ i ∈ hdvs cls, i ∈ own) → notSet iter = true → CpT X Φ scope celt r gens cls →
      CpT X Φ scope celt (.cons own t it ifs r) (⟨tg, iter, es, 0⟩ :: gens) (⟨bwi X scope tg iter, bwg X scope tg, bwts X scope es, own⟩ :: cls)
theorem CpT.bcls : ∀ {r : CCs} {gens : List Comprehension} {cls : List Cl}, CpT X Φ scope celt r gens cls → BCls X scope gens cls
  | _, _, _, .last => .nil
  | _, _, _, .cons hi hg ht hs hv hset t => .cons (fun s H0 C cl fp => ⟨⟨fun pins s1 σ1 H1 Q1 I h => h s H0 C cl fp pins s1 I⟩, ⟨fun pins s1 σ1 H1 v u Q1 I r h => h s H0 C cl fp pins s1 u I r⟩, ⟨fun pins s1 σ1 H1 Q1 I h => h s H0 C cl fp pins s1 I⟩⟩)
      (fun _ x => notSet_id hset) hv (CpT.bcls t)
theorem tail_cp {k : Kp} (he : InB X scope fun Y => OkE Y Φ celt elt) (rpw : Rp X.K H1 O1 ρw σw) (hD : H1 D = none) : ∀ {r : CCs} {gens : List Comprehension} {cls : List Cl}, CpT X Φ scope celt r gens cls → (∀ i ∈ hdvs cls, i ∈ vs) →
    ∀ {ρ ρ' : Rho} {zs : List PyData}, evC Φ r ρ = some (zs, ρ') → ∀ {σ : L2.St} {H : Hp} {O : List Addr} {acc rest : List PyData} {u : HO}, finOk k (acc ++ zs ++ rest) → Bz X.K H1 O1 ρw σw D vs H O ρ σ → H D = some u → AQ X.K X.w D k u H O acc →
    ∀ {N : Hp → Prop}, (∀ H' O' u', Bz X.K H1 O1 ρw σw D vs H' O' ρ' (wipe σ (hdvs cls)) → Ext H O H' O' → H' D = some u' → AQ X.K X.w D k u' H' O' (acc ++ zs) → N H') → tCl (lastK X (bwp X scope elt) D k) cls σ H N
  | _, _, _, .last, _, ρ, ρ', zs, hv, σ, H, O, acc, rest, u, hf, b, hu, q, N, hN => by
    rw [evC] at hv
    obtain ⟨⟨r, ρ1⟩, h1, hv⟩ := Option.bind_eq_some_iff.mp hv
    obtain ⟨y, h2, e⟩ := Option.map_eq_some_iff.mp hv
    cases e
    exact last_ok he h1 h2 (rest := rest) (by simpa using hf) rpw hD b hu q hN
  | _, _, _, .cons (own := own) (t := t) (it := it) (ifs := ifs) (r := r) (tg := tg) (iter := iter) (es := es) (cls := cls) hi hg ht hs hv hset tl, hin, ρ, ρ', zs, hev, σ, H, O, acc, rest, u, hf, b, hu, q, N, hN => by
    have hin' : ∀ i ∈ own, i ∈ vs := hin
    rw [evC] at hev
    obtain ⟨⟨xs, ρ1⟩, h1, h2⟩ := Option.bind_eq_some_iff.mp hev
    intro s H0 C cl fp
    refine hi s H0 C cl fp ρ xs ρ1 h1 σ H O b.rp _ fun J H6 O6 n6 src1 => ?_
    have b6 := b.nx rpw n6
    have D6 := b.nxD n6 hu
    have q6 := q.ext b.rp.dom (b.ext n6)
    obtain ⟨G1, Y1, w1, hG1, hY1⟩ := src1
    refine walk_W w1 (fun j H' => ∃ ρ7 O7 acc1 rest1 u7, lcC (fun x ρ' => (bindT [] t x ρ').bind fun ρ1 => (evTs Φ ifs ρ1).bind fun q =>
        if q.1 = true then (evC Φ r q.2).map fun s => (s.1, wipeR s.2 own) else some ([], wipeR q.2 own)) (xs.drop j) ρ7 = some (rest1, ρ') ∧ zs = acc1 ++ rest1 ∧
      Bz X.K H1 O1 ρw σw D vs H' O7 ρ7 (wipe σ own) ∧ Ext H6 O6 H' O7 ∧ H' D = some u7 ∧ AQ X.K X.w D k u7 H' O7 (acc ++ acc1)) _ ?_ ?_ ?_ ?_
    · exact ⟨wipeR ρ1 own, O6, [], zs, u, by rw [List.drop_zero]; exact h2, rfl, b6.wipe own, Ext.refl, D6, by rw [List.append_nil]; exact q6⟩
    · intro j H' _ ⟨ρ7, O7, acc1, rest1, u7, _, _, _, ex, _⟩
      exact hG1 H' O7 ex
    · intro j v1 H7 H8 hj ⟨ρ7, O7, acc1, rest1, u7, k1, k2, b7, ex7, D7, q7⟩ hy1
      obtain ⟨x1, hx1, st1, ow1, yd1⟩ := hY1 j H7 O7 v1 H8 hj ex7 b7.rp.dom hy1
      rw [drop_cons hx1, lcC] at k1
      obtain ⟨⟨ys, ρ8⟩, m1, k1⟩ := Option.bind_eq_some_iff.mp k1
      obtain ⟨⟨rest1', ρE3⟩, m2, k3⟩ := Option.map_eq_some_iff.mp k1
      simp only at m2 k3
      obtain ⟨ρf, m3, m1⟩ := Option.bind_eq_some_iff.mp m1
      obtain ⟨⟨b1, ρg⟩, m4, m1⟩ := Option.bind_eq_some_iff.mp m1
      have b8 := b7.st0 rpw st1 ow1
      have ex8 : Ext H6 O6 H8 O7 := ex7.comp (st1.ext fun _ h => h.elim)
      have D8 : H8 D = some u7 := st1.keep D _ D7 fun h => h
      have q8 := q7.ext b7.rp.dom (st1.ext fun _ h => h.elim)
      intro s H0 C cl fp
      refine hg s H0 C cl fp ρ7 ρf x1 m3 (wipe σ own) H8 O7 v1 b8.rp yd1 _ fun σ3 H9 O9 gx1 => ?_
      have hw1 : wipe σ3 own = wipe σ own := (wipe_eq gx1.sl fun i hi => (gx1.out i fun z => hi (hs i z)).1).trans (wipe_wipe fun _ h => h)
      have b9 := b8.gx rpw D8 gx1 fun i z => hin' i (hs i z)
      have ex9 := ex8.comp gx1.ext
      have D9 : H9 D = some u7 := gx1.st.keep D _ D8 fun h => h
      have q9 := q8.ext b8.rp.dom gx1.ext
      refine ⟨hw1, fun s H0 C cl fp => ?_⟩
      refine ht s H0 C cl fp ρf b1 ρg m4 σ3 H9 O9 gx1.rp _ fun Ha Oa na => ?_
      have ba := b9.nx rpw na
      have exa := ex9.comp (b9.ext na)
      have Da := b9.nxD na D9
      have qa := q9.ext b9.rp.dom (b9.ext na)
      cases b1 with
      | false =>
        rw [if_neg Bool.false_ne_true] at m1
        cases m1
        cases k3
        rw [if_neg Bool.false_ne_true]
        have bw := ba.wipe own
        rw [hw1] at bw
        exact ⟨_, Oa, acc1, _, u7, m2, k2, bw, exa, Da, qa⟩
      | true =>
        rw [if_pos rfl] at m1
        obtain ⟨⟨ys2, ρd⟩, p1, e5⟩ := Option.map_eq_some_iff.mp m1
        cases e5
        cases k3
        rw [if_pos rfl]
        refine tail_cp he rpw hD tl (fun i z => hin' i (hv i z)) p1 (rest := rest1' ++ rest) (acc := acc ++ acc1) ?_ ba Da qa fun H' O' u' b' ex' D' q' => ?_
        · rw [k2] at hf
          simpa [List.append_assoc] using hf
        · have bw := b'.wipe own
          have hw2 : wipe (wipe σ3 (hdvs cls)) own = wipe σ own := by
            rw [← hw1]
            exact wipe_eq (wipe_length _ _) fun i hi => wipe_out fun z => hi (hv i z)
          rw [hw2] at bw
          exact ⟨_, O', acc1 ++ ys2, _, u', m2, by rw [k2, List.append_assoc], bw, exa.comp ex', D', by rw [← List.append_assoc]; exact q'⟩
    · intro H7 ⟨ρ7, O7, acc1, rest1, u7, k1, k2, b7, ex7, D7, q7⟩
      rw [List.drop_length, lcC] at k1
      cases k1
      rw [List.append_nil] at k2
      subst k2
      exact hN H7 O7 u7 b7 ((b.ext n6).comp ex7) D7 q7
/-- a whole comprehension: the thing that is made -/
theorem cp_ok {k : Kp} {own : List Nat} {t : CT} {it : CI} {ifs : CEs} {r : CCs} {tg iter : Expr} {es : List Expr} {gens : List Comprehension} {cls : List Cl} {pr : Bool} (he : InB X scope fun Y => OkE Y Φ celt elt) (hi : OkI X Φ pr it tg iter) (hg : InB X scope fun Y => OkG Y pr [] t tg) (ht : InB X scope fun Y => OkTs Y Φ ifs es)
    (hs : ∀ i ∈ t.sl, i ∈ own) (hv : ∀ i ∈ hdvs cls, i ∈ own) (tl : CpT X Φ scope celt r gens cls) {ρ ρ1 ρE : Rho} {xs ys : List PyData} (h1 : evI Φ it ρ = some (xs, ρ1))
    (h2 : lcC (fun x ρ' => (bindT [] t x ρ').bind fun ρ1 => (evTs Φ ifs ρ1).bind fun q => if q.1 = true then (evC Φ r q.2).map fun s => (s.1, wipeR s.2 own) else some ([], wipeR q.2 own)) xs (wipeR ρ1 own) = some (ys, ρE))
    (hf : finOk k ys) {σ : L2.St} {H : Hp} {O : List Addr} (rp : Rp X.K H O ρ σ) {Q : VK}
    (q : ∀ D u H' O', H D = none → Nx X.K H O ρ σ H' O' (restoreR ρ1 ρE own) → D ∈ O' → H' D = some u → AQ X.K X.w D k u H' O' ys → Q (.ref D) H') :
    tCp (newK X.w k) (fun D => lastK X (bwp X scope elt) D k) ⟨twi X tg iter, bwg X scope tg, bwts X scope es, own⟩ cls σ H Q := by
  refine hi ρ xs ρ1 h1 σ H O rp _ fun J H1 O1 n1 src => ?_
  intro D hD
  obtain ⟨G, Y, w, hG, hY⟩ := src
  have rpw := n1.rp.wipe own
  refine walk_W w (fun i H' => ∃ ρ2 O2 acc rest u, lcC (fun x ρ' => (bindT [] t x ρ').bind fun ρ1 => (evTs Φ ifs ρ1).bind fun q => if q.1 = true then (evC Φ r q.2).map fun s => (s.1, wipeR s.2 own) else some ([], wipeR q.2 own)) (xs.drop i) ρ2 = some (rest, ρE) ∧ ys = acc ++ rest ∧
      Nx X.K H1 O1 (wipeR ρ1 own) (wipe σ own) H' O2 ρ2 ∧ D ∈ O2 ∧ H' D = some u ∧ AQ X.K X.w D k u H' O2 acc) _ ?_ ?_ ?_ ?_
  · refine ⟨wipeR ρ1 own, D :: O1, [], ys, _, by rw [List.drop_zero]; exact h2, rfl, ?_, List.mem_cons_self, upd_same, AQ.new k⟩
    have st : Stp H1 O1 (fun _ => False) (L2.upd H1 D (newK X.w k D)) (D :: O1) := Stp.newO hD
    exact Nx.plain rpw st ((rpw.dom.new hD).cons upd_same (AQ.own (AQ.new (K := X.K) (H := H1) (O := O1) k)))
  · intro i H' _ ⟨ρ2, O2, acc, rest, u, _, _, n, _⟩
    exact hG H' O2 (n.ext rpw)
  · intro i v H2 H3 hi ⟨ρ2, O2, acc, rest, u, e1, e2, n, d1, d2, d3⟩ hy
    obtain ⟨x, hx, st0, ow0, yd⟩ := hY i H2 O2 v H3 hi (n.ext rpw) n.rp.dom hy
    rw [drop_cons hx, lcC] at e1
    obtain ⟨⟨zs, ρ3⟩, f1, e1⟩ := Option.bind_eq_some_iff.mp e1
    obtain ⟨⟨rest', ρE'⟩, f2, e3⟩ := Option.map_eq_some_iff.mp e1
    simp only at f2 e3
    obtain ⟨ρb, g1, f1⟩ := Option.bind_eq_some_iff.mp f1
    obtain ⟨⟨b, ρc⟩, g2, f1⟩ := Option.bind_eq_some_iff.mp f1
    have b0 := Bz.of (vs := own) n rpw hD d1
    have b3 := b0.st0 rpw st0 ow0
    have D3 : H3 D = some u := st0.keep D _ d2 fun h => h
    have q3 := d3.ext n.rp.dom (st0.ext fun _ h => h.elim)
    intro s H0 C cl fp
    refine hg s H0 C cl fp ρ2 ρb x g1 (wipe σ own) H3 O2 v b3.rp yd _ fun σ2 H4 O4 gx => ?_
    have hw : wipe σ2 own = wipe σ own := (wipe_eq gx.sl fun i hi => (gx.out i fun z => hi (hs i z)).1).trans (wipe_wipe fun _ h => h)
    have b4 := b3.gx rpw D3 gx hs
    have D4 : H4 D = some u := gx.st.keep D _ D3 fun h => h
    have q4 := q3.ext b3.rp.dom gx.ext
    refine ⟨hw, fun s H0 C cl fp => ?_⟩
    refine ht s H0 C cl fp ρb b ρc g2 σ2 H4 O4 gx.rp _ fun H5 O5 n5 => ?_
    have b5 := b4.nx rpw n5
    have D5 := b4.nxD n5 D4
    have q5 := q4.ext b4.rp.dom (b4.ext n5)
    cases b with
    | false =>
      rw [if_neg Bool.false_ne_true] at f1
      cases f1
      cases e3
      rw [if_neg Bool.false_ne_true]
      exact ⟨_, O5, acc, _, u, f2, by simpa using e2, b5.over hw, b5.mem, D5, q5⟩
    | true =>
      rw [if_pos rfl] at f1
      obtain ⟨⟨ys2, ρE2⟩, g4, f1⟩ := Option.map_eq_some_iff.mp f1
      cases f1
      cases e3
      rw [if_pos rfl]
      refine tail_cp (k := k) he rpw hD tl hv g4 (rest := rest') (acc := acc) (by rw [e2] at hf; simpa [List.append_assoc] using hf) b5 D5 q5 fun H' O' u' b' ex' D' q' => ?_
      have hw2 : wipe (wipe σ2 (hdvs cls)) own = wipe σ own := by
        rw [← hw]
        exact wipe_eq (wipe_length _ _) fun i hi => wipe_out fun z => hi (hv i z)
      exact ⟨_, O', acc ++ ys2, _, u', f2, by rw [e2, List.append_assoc], b'.over hw2, b'.mem, D', q'⟩
  · intro H2 ⟨ρ2, O2, acc, rest, u, e1, e2, n, d1, d2, d3⟩
    rw [List.drop_length, lcC] at e1
    cases e1
    rw [List.append_nil] at e2
    subst e2
    exact q D u H2 O2 (n1.base hD) (blk_end rp n1 n) d1 d2 d3
end
end DI

/-! DC5: [..], sorted({..}), sorted({..: True ..}) of several clauses, as expressions. -/
namespace DI
open PySem PySem.Spec PyProof.Rows L2
theorem ris_of {ks : List Int} (nd : ks.Nodup) {ms : List Int} (hp : ms.Perm ks) (hs : ms.Pairwise (· ≤ ·)) : ms.Pairwise (· < ·) := by
  have nd2 : ms.Nodup := hp.nodup_iff.mpr nd
  have : ∀ l : List Int, l.Pairwise (· ≤ ·) → l.Nodup → l.Pairwise (· < ·) := by
    intro l
    induction l with
    | nil => intro _ _; exact .nil
    | cons x r ih =>
      intro h1 h2
      obtain ⟨a1, a2⟩ := List.pairwise_cons.mp h1
      obtain ⟨b1, b2⟩ := List.nodup_cons.mp h2
      refine List.pairwise_cons.mpr ⟨fun y hy => ?_, ih a2 b2⟩
      have h3 := a1 y hy
      have h4 : x ≠ y := fun e => b1 (e ▸ hy)
      omega
  exact this ms hs nd2
theorem ssetD_ints {ns : List Int} (h : ns.length < 64) : ssetD (ns.map .int) = some ((riseU ns).map .int) := by
  have e : intsD (ns.map PyData.int) = some ns := by
    induction ns with
    | nil => rfl
    | cons k r ih =>
      have h' : r.length < 64 := by simp only [List.length_cons] at h; omega
      show (intsD (r.map PyData.int)).map (k :: ·) = _
      rw [ih h']
      rfl
  unfold ssetD
  rw [e, Option.bind_some, if_pos h]
section
variable {X : Cx} {Φ : Phi} {scope : Scope} {elt tg iter : Expr} {celt : CE} {ifs : CEs} {es : List Expr} {own : List Nat} {t : CT} {it : CI} {r : CCs} {gens : List Comprehension} {cls : List Cl} {pr : Bool} {pos p pos2 : Pos} {nms : List (PySem.Str × Nat)}
theorem okE_cpL (hc : X.calm = true) (hN : X.N.Nodup) (ok : BlkOk X.N X.env.scope scope nms) (hvs : nms.map (·.2) = own) (hset : notSet iter = true)
    (he : InB X scope fun Y => OkE Y Φ celt elt) (hi : OkI X Φ pr it tg iter) (hg : InB X scope fun Y => OkG Y pr [] t tg) (ht : InB X scope fun Y => OkTs Y Φ ifs es) (hs : ∀ i ∈ t.sl, i ∈ own) (hv : ∀ i ∈ hdvs cls, i ∈ own) (tl : CpT X Φ scope celt r gens cls) :
    OkE X Φ (.cp .list own t it ifs r) (.ListComp elt (⟨tg, iter, es, 0⟩ :: gens) scope pos) := by
  intro ρ rr ρ' hev σ H O rp Q q
  rw [ev] at hev
  obtain ⟨⟨xs, ρ1⟩, h1, hev⟩ := Option.bind_eq_some_iff.mp hev
  obtain ⟨⟨ys, ρE⟩, h2, hev⟩ := Option.bind_eq_some_iff.mp hev
  obtain ⟨v, h3, e⟩ := Option.map_eq_some_iff.mp hev
  cases e
  have hf := fin_ok h3
  refine of_pe (pe_cpL (own := nms) (c := ⟨twi X tg iter, bwg X scope tg, bwts X scope es, own⟩) (r := cls) (te := bwp X scope elt) hc hN pi_wp ok hvs.symm hv (fun s H0 C cl fp => ⟨fun pins s1 σ1 H1 v u Q1 I r h => h s H0 C cl fp pins s1 u I r⟩) (fun s H0 C cl fp => ⟨fun pins s1 σ1 H1 Q1 I h => h s H0 C cl fp pins s1 I⟩) tl.bcls
    (fun s H0 C cl fp => ⟨fun pins s1 σ1 H1 Q1 I h => h s H0 C cl fp pins s1 I⟩) (fun x => notSet_id hset)) ?_
  refine cp_ok (k := .list) he hi hg ht hs hv tl h1 h2 hf rp fun D u H' O' hD n d1 d2 d3 => ?_
  obtain ⟨vs, eu, da⟩ := d3
  subst eu
  have h3' : (if ys.length ≤ limLen then some (R.l ys) else none) = some rr := h3
  rw [if_pos (show ys.length ≤ limLen from hf)] at h3'
  cases h3'
  exact q _ H' O' n ⟨D, vs, rfl, d1, hD, d2, da⟩
/-- the rising list of what is gathered -/
theorem mk_rise {K : PySem.W.Frag} {H : Hp} {O : List Addr} {ns ms : List Int} {T : VK → Prop} (ow : Ow H O) (h1 : ms.Pairwise (· < ·)) (h2 : ∀ k, k ∈ ms ↔ k ∈ ns) (h : ∀ Q : VK, (∀ p, H p = none → Q (.ref p) (L2.upd H p (.lst (ms.map V.int)))) → T Q) : Mk1 K H O (.l ((riseU ns).map .int)) T := by
  have e : ms = riseU ns := rise_uniq _ _ h1 (riseU_sorted ns) fun x => by rw [h2, riseU_mem]
  subst e
  exact mk_lst ow (dqA_ints _) h
theorem okE_cpS (hc : X.calm = true) (hN : X.N.Nodup) (hg1 : Gl X "sorted") (hm1 : X.mg "sorted" = none) (ok : BlkOk X.N X.env.scope scope nms) (hvs : nms.map (·.2) = own) (hset : notSet iter = true)
    (he : InB X scope fun Y => OkE Y Φ celt elt) (hi : OkI X Φ pr it tg iter) (hg : InB X scope fun Y => OkG Y pr [] t tg) (ht : InB X scope fun Y => OkTs Y Φ ifs es) (hs : ∀ i ∈ t.sl, i ∈ own) (hv : ∀ i ∈ hdvs cls, i ∈ own) (tl : CpT X Φ scope celt r gens cls) :
    OkE X Φ (.cp .sset own t it ifs r) (.Call (.Name "sorted" p) [.SetComp elt (⟨tg, iter, es, 0⟩ :: gens) scope pos2] [] pos) := by
  intro ρ rr ρ' hev σ H O rp Q q
  rw [ev] at hev
  obtain ⟨⟨xs, ρ1⟩, h1, hev⟩ := Option.bind_eq_some_iff.mp hev
  obtain ⟨⟨ys, ρE⟩, h2, hev⟩ := Option.bind_eq_some_iff.mp hev
  obtain ⟨v, h3, e⟩ := Option.map_eq_some_iff.mp hev
  cases e
  have hf := fin_ok h3
  have hb1 : bootBuiltins "sorted" = some (.builtin "sorted") := by decide +kernel
  have inner := pe_cpS (X := X) (own := nms) (pos := pos2) (c := ⟨twi X tg iter, bwg X scope tg, bwts X scope es, own⟩) (r := cls) (te := bwp X scope elt) hc hN pi_wp ok hvs.symm hv (fun s H0 C cl fp => ⟨fun pins s1 σ1 H1 v u Q1 I r h => h s H0 C cl fp pins s1 u I r⟩) (fun s H0 C cl fp => ⟨fun pins s1 σ1 H1 Q1 I h => h s H0 C cl fp pins s1 I⟩) tl.bcls
    (fun s H0 C cl fp => ⟨fun pins s1 σ1 H1 Q1 I h => h s H0 C cl fp pins s1 I⟩) (fun x => notSet_id hset)
  refine of_pe (pe_callB (cr_sortedSet hc) hg1 hm1 hb1 (pa_cons inner pa_nil rfl) (by decide) (by decide) rfl rfl) ?_
  show tCp (newK X.w .sset) (fun D => lastK X (bwp X scope elt) D .sset) _ cls σ H (fun x H1 => rSortedSet X.w [x] H1 Q)
  refine cp_ok (k := .sset) he hi hg ht hs hv tl h1 h2 hf rp fun D u H' O' hD n d1 d2 d3 => ?_
  obtain ⟨ns, S, m, eu, hS, hm, ea⟩ := d3
  subst eu ea
  obtain ⟨ms0, e0, l0⟩ := hf
  have l : ns.length < 64 := by
    have := congrArg List.length e0
    simp only [List.length_map] at this
    omega
  have h3' : (ssetD (ns.map .int)).map R.l = some rr := h3
  rw [ssetD_ints l] at h3'
  cases h3'
  refine ⟨D, S, m, rfl, d2, by omega, fun ms p2 s1 s2 _ hp2 => ?_⟩
  exact n.made rp (mk_rise (K := X.K) (ns := ns) (ms := ms) (T := fun Q => ∀ p, H' p = none → Q (.ref p) (L2.upd H' p (.lst (ms.map V.int)))) n.rp.dom s1 (fun k => (s2 k).trans (hS k)) fun Q q => q) q p2 hp2
theorem okE_cpD (hc : X.calm = true) (hN : X.N.Nodup) (hg1 : Gl X "sorted") (hm1 : X.mg "sorted" = none) (ok : BlkOk X.N X.env.scope scope nms) (hvs : nms.map (·.2) = own) (hset : notSet iter = true) {s0 : Nat} {pv : Pos}
    (he : InB X scope fun Y => OkE Y Φ celt elt) (hi : OkI X Φ pr it tg iter) (hg : InB X scope fun Y => OkG Y pr [] t tg) (ht : InB X scope fun Y => OkTs Y Φ ifs es) (hs : ∀ i ∈ t.sl, i ∈ own) (hv : ∀ i ∈ hdvs cls, i ∈ own) (tl : CpT X Φ scope celt r gens cls) :
    OkE X Φ (.cp .sdict own t it ifs r) (.Call (.Name "sorted" p) [.DictComp elt (.Constant (.bool true) s0 pv) (⟨tg, iter, es, 0⟩ :: gens) scope pos2] [] pos) := by
  intro ρ rr ρ' hev σ H O rp Q q
  rw [ev] at hev
  obtain ⟨⟨xs, ρ1⟩, h1, hev⟩ := Option.bind_eq_some_iff.mp hev
  obtain ⟨⟨ys, ρE⟩, h2, hev⟩ := Option.bind_eq_some_iff.mp hev
  obtain ⟨v, h3, e⟩ := Option.map_eq_some_iff.mp hev
  cases e
  have hf := fin_ok h3
  have hb1 : bootBuiltins "sorted" = some (.builtin "sorted") := by decide +kernel
  have inner := pe_cpD (X := X) (own := nms) (pos := pos2) (c := ⟨twi X tg iter, bwg X scope tg, bwts X scope es, own⟩) (r := cls) (tk := bwp X scope elt) (tv := tC (.bl true)) (vx := .Constant (.bool true) s0 pv) hc hN pi_wp ok hvs.symm hv (fun s H0 C cl fp => ⟨fun pins s1 σ1 H1 v u Q1 I r h => h s H0 C cl fp pins s1 u I r⟩) (fun s H0 C cl fp => ⟨fun pins s1 σ1 H1 Q1 I h => h s H0 C cl fp pins s1 I⟩) tl.bcls
    (fun s H0 C cl fp => ⟨fun pins s1 σ1 H1 Q1 I h => h s H0 C cl fp pins s1 I⟩) (fun s H0 C cl fp => pe_bl) (fun x => notSet_id hset)
  refine of_pe (pe_callB (call_sortedDI hc) hg1 hm1 hb1 (pa_cons inner pa_nil rfl) (by decide) (by decide) rfl rfl) ?_
  show tCp (newK X.w .sdict) (fun D => lastK X (bwp X scope elt) D .sdict) _ cls σ H (fun x H1 => ∃ (a : Addr) (kvs : List (L2.Key × V)) (ks : List Int), [x] = [V.ref a] ∧ Rd H1 a (.dK kvs) ∧ kvs.map (·.1) = ks.map Sum.inl ∧ ks.length < 64 ∧
    ∀ (ys : List Int) (p : Addr), ys.Perm ks → ys.Pairwise (· ≤ ·) → H1 p = none → Q (.ref p) (L2.upd H1 p (.lst (ys.map V.int))))
  refine cp_ok (k := .sdict) he hi hg ht hs hv tl h1 h2 hf rp fun D u H' O' hD n d1 d2 d3 => ?_
  obtain ⟨ns, kvs, ks, eu, hk, hd, hmem, hlen, ea⟩ := d3
  subst eu ea
  obtain ⟨ms0, e0, l0⟩ := hf
  have l : ns.length < 64 := by
    have := congrArg List.length e0
    simp only [List.length_map] at this
    omega
  have h3' : (ssetD (ns.map .int)).map R.l = some rr := h3
  rw [ssetD_ints l] at h3'
  cases h3'
  refine ⟨D, kvs, ks, rfl, .inl d2, hk, by omega, fun ms p2 s1 s2 hp2 => ?_⟩
  exact n.made rp (mk_rise (K := X.K) (ns := ns) (ms := ms) (T := fun Q => ∀ p, H' p = none → Q (.ref p) (L2.upd H' p (.lst (ms.map V.int)))) n.rp.dom (ris_of hd s1 s2) (fun k => s1.mem_iff.trans (hmem k)) fun Q q => q) q p2 hp2
end
end DI

/-! DC6: chains of three, range with a step, dicts that are read only. -/
namespace DI
open PySem PySem.Spec PyProof.Rows L2
section
variable {X : Cx} {a b c d : Expr} {ta tb tc td : TE} {pos : Pos}
def tChain3 (r r' r'' : R2) (ta tb tc td : TE) : TE := fun σ H Q => ta σ H fun x H1 => tb σ H1 fun y H2 => r x y H2 fun z H3 => ∃ k, z = .bl k ∧
  (if k = true then tc σ H3 fun w H4 => r' y w H4 fun z2 H5 => ∃ k2, z2 = .bl k2 ∧ (if k2 = true then td σ H5 fun v H6 => r'' w v H6 Q else Q (.bl false) H5) else Q (.bl false) H3)
theorem pe_chain3 {op op' op'' : CmpOp} {r r' r'' : R2} (ho : OpR X (compareOp op) r) (ho' : OpR X (compareOp op') r') (ho'' : OpR X (compareOp op'') r'') (ha : PE X a ta) (hb : PE X b tb) (hc : PE X c tc) (hd : PE X d td)
    (hm : lastMarks [op, op', op''] [b, c, d] = false := by with_unfolding_all rfl) : PE X (.Compare a [op, op', op''] [b, c, d] pos) (tChain3 r r' r'' ta tb tc td) := by
  refine ⟨fun pins s σ H Q I h => ?_⟩
  refine Compare_chain (thn (ha.run pins s σ H _ I h) fun v s1 ⟨x, H1, I1, r1, q1⟩ => chain_link (thn (hb.run pins s1 σ H1 _ I1 q1) fun u s2 ⟨y, H2, I2, r2, q2⟩ =>
    thn (ho pins s2 σ H2 x y v u _ I2 r1 r2 q2) fun d s3 ⟨z, H3, I3, r3, k, e, q3⟩ => ?_)) hm
  subst e
  cases r3
  refine wpAny_truthy_bool ?_
  cases k with
  | false => exact ite_ff ⟨.bl false, H3, I3, rfl, q3⟩
  | true =>
    refine ite_tt (chain_link (thn (hc.run pins s3 σ H3 _ I3 q3) fun w' s4 ⟨z', H4, I4, r4, q4⟩ => thn (ho' pins s4 σ H4 y z' u w' _ I4 r2 r4 q4) fun d' s5 ⟨z2, H5, I5, r5, k2, e2, q5⟩ => ?_))
    subst e2
    cases r5
    refine wpAny_truthy_bool ?_
    cases k2 with
    | false => exact ite_ff ⟨.bl false, H5, I5, rfl, q5⟩
    | true => exact ite_tt (chain_last (thn (hd.run pins s5 σ H5 _ I5 q5) fun w3 s6 ⟨z3, H6, I6, r6, q6⟩ => ho'' pins s6 σ H6 z' z3 w' w3 Q I6 r4 r6 q6))
theorem pt_chain3 {op op' op'' : CmpOp} {r r' r'' : R2} (ho : OpR X (compareOp op) r) (ho' : OpR X (compareOp op') r') (ho'' : OpR X (compareOp op'') r'') (ha : PE X a ta) (hb : PE X b tb) (hc : PE X c tc) (hd : PE X d td)
    (hm : lastMarks [op, op', op''] [b, c, d] = false := by with_unfolding_all rfl) : PT X (.Compare a [op, op', op''] [b, c, d] pos) (tTest (tChain3 r r' r'' ta tb tc td)) := by
  refine ⟨fun pins s σ H Q I h => ?_⟩
  refine isTrue_chain (thn (ha.run pins s σ H _ I h) fun v s1 ⟨x, H1, I1, r1, q1⟩ => test_link (thn (hb.run pins s1 σ H1 _ I1 q1) fun u s2 ⟨y, H2, I2, r2, q2⟩ =>
    thn (ho pins s2 σ H2 x y v u _ I2 r1 r2 q2) fun d s3 ⟨z, H3, I3, r3, k, e, q3⟩ => ?_)) hm
  subst e
  cases r3
  refine wpAny_truthy_bool ?_
  cases k with
  | false =>
    obtain ⟨k', e', q'⟩ := q3
    cases e'
    exact ite_ff ⟨H3, I3, q'⟩
  | true =>
    refine ite_tt (test_link (thn (hc.run pins s3 σ H3 _ I3 q3) fun w' s4 ⟨z', H4, I4, r4, q4⟩ => thn (ho' pins s4 σ H4 y z' u w' _ I4 r2 r4 q4) fun d' s5 ⟨z2, H5, I5, r5, k2, e2, q5⟩ => ?_))
    subst e2
    cases r5
    refine wpAny_truthy_bool ?_
    cases k2 with
    | false =>
      obtain ⟨k', e', q'⟩ := q5
      cases e'
      exact ite_ff ⟨H5, I5, q'⟩
    | true =>
      refine ite_tt (test_last (thn (hd.run pins s5 σ H5 _ I5 q5) fun w3 s6 ⟨z3, H6, I6, r6, q6⟩ => thn (ho'' pins s6 σ H6 z' z3 w' w3 _ I6 r4 r6 q6) fun d3 s7 ⟨z4, H7, I7, r7, k3, e3, q7⟩ => ?_))
      subst e3
      cases r7
      exact wpAny_truthy_bool ⟨H7, I7, q7⟩
end
section
variable {X : Cx} {Φ : Phi} {ca cb cc cd : CE} {ea eb ec ed : Expr} {pos p : Pos} {o o2 o3 : COp}
/-- both forms from one -/
theorem ch3_ok (ha : OkB X Φ ca ea) (hb : OkB X Φ cb eb) (hc : OkB X Φ cc ec) (hd : OkB X Φ cd ed) {ρ ρ' : Rho} {r : R} (hv : ev Φ (.ch3 o o2 o3 ca cb cc cd) ρ = some (r, ρ')) {σ : L2.St} {H : Hp} {O : List Addr} (rp : Rp X.K H O ρ σ) {Q : VK}
    (q : ∀ k H' O', r = .d (.bool k) → Nx X.K H O ρ σ H' O' ρ' → Q (.bl k) H') : tChain3 (rCmp X.K o) (rCmp X.K o2) (rCmp X.K o3) (twp X ea) (twp X eb) (twp X ec) (twp X ed) σ H Q := by
  rw [ev] at hv
  obtain ⟨⟨p, ρ1⟩, h1, hv⟩ := Option.bind_eq_some_iff.mp hv
  obtain ⟨⟨p2, ρ2⟩, h2, hv⟩ := Option.bind_eq_some_iff.mp hv
  obtain ⟨x, h3, hv⟩ := Option.bind_eq_some_iff.mp hv
  obtain ⟨y, h4, hv⟩ := Option.bind_eq_some_iff.mp hv
  obtain ⟨k, h5, hv⟩ := Option.bind_eq_some_iff.mp hv
  refine ha ρ p ρ1 h1 σ H O rp _ fun v H1 O1 n1 r1 => ?_
  refine hb ρ1 p2 ρ2 h2 σ H1 O1 n1.rp _ fun u H2 O2 n2 r2 => ?_
  have n := n1.trans rp n2
  refine cmp_ok n.rp.dom (rd_ok n.rp (r1.nx n1.rp (n1.nown rp) n2) h3) (rd_ok n.rp r2 h4) o h5 _ ⟨k, rfl, ?_⟩
  cases k with
  | false =>
    rw [if_neg Bool.false_ne_true] at hv ⊢
    cases hv
    exact q _ _ _ rfl n
  | true =>
    rw [if_pos rfl] at hv ⊢
    obtain ⟨⟨p3, ρ3⟩, h6, hv⟩ := Option.bind_eq_some_iff.mp hv
    obtain ⟨y', h7, hv⟩ := Option.bind_eq_some_iff.mp hv
    obtain ⟨z, h8, hv⟩ := Option.bind_eq_some_iff.mp hv
    obtain ⟨k2, h9, hv⟩ := Option.bind_eq_some_iff.mp hv
    refine hc ρ2 p3 ρ3 h6 σ H2 O2 n.rp _ fun w H3 O3 n3 r3 => ?_
    have n' := n.trans rp n3
    refine cmp_ok n'.rp.dom (rd_ok n'.rp (r2.nx n.rp (n2.nown n1.rp) n3) h7) (rd_ok n'.rp r3 h8) o2 h9 _ ⟨k2, rfl, ?_⟩
    cases k2 with
    | false =>
      rw [if_neg Bool.false_ne_true] at hv ⊢
      cases hv
      exact q _ _ _ rfl n'
    | true =>
      rw [if_pos rfl] at hv ⊢
      obtain ⟨⟨p4, ρ4⟩, g1, hv⟩ := Option.bind_eq_some_iff.mp hv
      obtain ⟨z', g2, hv⟩ := Option.bind_eq_some_iff.mp hv
      obtain ⟨w', g3, hv⟩ := Option.bind_eq_some_iff.mp hv
      obtain ⟨k3, g4, e⟩ := Option.map_eq_some_iff.mp hv
      cases e
      refine hd ρ3 p4 ρ4 g1 σ H3 O3 n'.rp _ fun t H4 O4 n4 r4 => ?_
      have n'' := n'.trans rp n4
      exact cmp_ok n''.rp.dom (rd_ok n''.rp (r3.nx n'.rp (n3.nown n.rp) n4) g2) (rd_ok n''.rp r4 g3) o3 g4 _ (q _ _ _ rfl n'')
theorem okE_ch3 (hu : X.A.units + 65 < cLine) (hm : lastMarks [copE o, copE o2, copE o3] [eb, ec, ed] = false) (ha : OkB X Φ ca ea) (hb : OkB X Φ cb eb) (hc : OkB X Φ cc ec) (hd : OkB X Φ cd ed) : OkE X Φ (.ch3 o o2 o3 ca cb cc cd) (.Compare ea [copE o, copE o2, copE o3] [eb, ec, ed] pos) := by
  intro ρ r ρ' hv σ H O rp Q q
  refine of_pe (pe_chain3 (op_cmp hu o) (op_cmp hu o2) (op_cmp hu o3) pe_wp pe_wp pe_wp pe_wp hm) ?_
  exact ch3_ok ha hb hc hd hv rp fun k H' O' e n => by subst e; exact q _ _ _ n (.bl k)
theorem ch3_bool {ρ ρ' : Rho} {r : R} (h : ev Φ (.ch3 o o2 o3 ca cb cc cd) ρ = some (r, ρ')) : ∃ k, r = .d (.bool k) := by
  rw [ev] at h
  obtain ⟨_, _, h⟩ := Option.bind_eq_some_iff.mp h
  obtain ⟨_, _, h⟩ := Option.bind_eq_some_iff.mp h
  obtain ⟨_, _, h⟩ := Option.bind_eq_some_iff.mp h
  obtain ⟨_, _, h⟩ := Option.bind_eq_some_iff.mp h
  obtain ⟨k, _, h⟩ := Option.bind_eq_some_iff.mp h
  split at h
  · obtain ⟨_, _, h⟩ := Option.bind_eq_some_iff.mp h
    obtain ⟨_, _, h⟩ := Option.bind_eq_some_iff.mp h
    obtain ⟨_, _, h⟩ := Option.bind_eq_some_iff.mp h
    obtain ⟨k, _, h⟩ := Option.bind_eq_some_iff.mp h
    split at h
    · obtain ⟨_, _, h⟩ := Option.bind_eq_some_iff.mp h
      obtain ⟨_, _, h⟩ := Option.bind_eq_some_iff.mp h
      obtain ⟨_, _, h⟩ := Option.bind_eq_some_iff.mp h
      obtain ⟨k2, _, e4⟩ := Option.map_eq_some_iff.mp h
      cases e4
      exact ⟨k2, rfl⟩
    · cases h
      exact ⟨false, rfl⟩
  · cases h
    exact ⟨false, rfl⟩
theorem okT_ch3 (hu : X.A.units + 65 < cLine) (hm : lastMarks [copE o, copE o2, copE o3] [eb, ec, ed] = false) (ha : OkB X Φ ca ea) (hb : OkB X Φ cb eb) (hc : OkB X Φ cc ec) (hd : OkB X Φ cd ed) : OkT X Φ (.ch3 o o2 o3 ca cb cc cd) (.Compare ea [copE o, copE o2, copE o3] [eb, ec, ed] pos) := by
  intro ρ r ρ' hv σ H O rp Q q
  have hv := evT_ev (by rw [evT] <;> nofun) rfl (fun r ρ' h => ch3_bool h) hv
  refine of_pt (pt_chain3 (op_cmp hu o) (op_cmp hu o2) (op_cmp hu o3) pe_wp pe_wp pe_wp pe_wp hm) ?_
  exact ch3_ok ha hb hc hd hv rp fun k H' O' e n => by cases e; exact ⟨_, rfl, q _ _ n⟩
end
/-! ### range with a step -/
section
variable {K : PySem.W.Frag} {H : Hp} {O : List Addr}
theorem walk_rangeC {lo c : Int} {n : Nat} : Walk (Itc lo c n) n (fun _ => True) (fun i H x H' => H' = H ∧ x = .int (lo + (i : Nat) * c)) where
  goes := fun i H hi _ => hi
  stops := fun H _ => Nat.le_refl n
  yields := fun i H x H' _ _ y => y
theorem rngS_len (i j k : Int) : (rngS i j k).length = (Builtin.Range.rangeSize i j k).toNat := by simp [rngS]
theorem src_rngS (i j k : Int) : SrcD K H O (rngS i j k) (Itc i k (Builtin.Range.rangeSize i j k).toNat) := by
  have w0 := walk_len (walk_rangeC (lo := i) (c := k) (n := (Builtin.Range.rangeSize i j k).toNat)) (rngS_len i j k).symm
  refine ⟨_, _, w0, fun _ _ _ => True.intro, fun m H1 O1 v H2 hm x ow1 ⟨e, hv⟩ => ?_⟩
  subst e
  subst hv
  rw [rngS_len] at hm
  refine ⟨.int (i + (m : Nat) * k), ?_, Stp.refl, ow1, .int _⟩
  simp [rngS, List.getElem?_map, List.getElem?_range hm]
variable {X : Cx} {Φ : Phi} {ca cb cc : CE} {ea eb ec tg : Expr} {p pos : Pos}
theorem okI_rng3 (hg : Gl X "range") (hm : X.mg "range" = none) (hn : notStar ea = true) (hn2 : notStar eb = true) (hn3 : notStar ec = true) (h : OkE X Φ ca ea) (h2 : OkE X Φ cb eb) (h3 : OkE X Φ cc ec) : OkId X Φ (.rng3 ca cb cc) tg (.Call (.Name "range" p) [ea, eb, ec] [] pos) := by
  intro ρ xs ρ' hv σ H O rp R q
  rw [evI] at hv
  obtain ⟨⟨r, ρ1⟩, h4, hv⟩ := Option.bind_eq_some_iff.mp hv
  obtain ⟨⟨r2, ρ2⟩, h5, hv⟩ := Option.bind_eq_some_iff.mp hv
  obtain ⟨⟨r3, ρ3⟩, h6, hv⟩ := Option.bind_eq_some_iff.mp hv
  simp only at hv
  split at hv
  · rename_i i j k
    obtain ⟨ys, h7, e2⟩ := Option.map_eq_some_iff.mp hv
    cases e2
    unfold rangeS at h7
    split at h7
    · rename_i hs
      cases h7
      have s3 : starEach [ec] X.env = [(false, eval ec X.env)] := star1 hn3
      refine of_pi (pi_range3 hg hm (pa_cons pe_wp (pa_cons pe_wp (pa_cons pe_wp pa_nil s3) (star_cons hn2)) (star_cons hn)) (star_cons hn) (star_plain (by simp [hn2, hn3]))) ?_
      refine h ρ _ ρ1 h4 σ H O rp _ fun v H1 O1 n1 d1 => ?_
      refine h2 ρ1 _ ρ2 h5 σ H1 O1 n1.rp _ fun u H2 O2 n2 d2 => ?_
      refine h3 ρ2 _ _ h6 σ H2 O2 n2.rp _ fun w H3 O3 n3 d3 => ?_
      cases d1
      cases d2
      cases d3
      exact ⟨_, _, _, _, rfl, ⟨hs.1, hs.2.1, hs.2.2.1, (Int.toNat_of_nonneg hs.2.2.2).symm⟩, q _ H3 O3 ((n1.trans rp n2).trans rp n3) (src_rngS _ _ _)⟩
    · cases h7
  · cases hv
end
end DI

/-! DC7: dicts that are read only: displays, d[k], d.get(k, x). -/
namespace DI
open PySem PySem.Spec PyProof.Rows L2
theorem keyD_inj {a b : L2.Key} (h : keyD a = keyD b) : a = b := by
  cases a <;> cases b <;> cases h <;> rfl
theorem keyEq_D (a b : L2.Key) : keyEq (keyD a) (keyD b) = decide (a = b) := by
  cases a <;> cases b <;> simp [keyD, keyEq]
theorem keyOk_D {x : PyData} (h : keyOk x = true) : ∃ k, keyD k = x := by
  cases x <;> first | exact ⟨.inl _, rfl⟩ | exact ⟨.inr _, rfl⟩ | cases h
theorem dq_key {K : PySem.W.Frag} {H : Hp} {O : List Addr} {k : L2.Key} {v : V} (h : Dq K H O (keyD k) v) : v = kV k := by
  cases k with
  | inl i => cases h; rfl
  | inr z => cases h; rfl
section
variable {K : PySem.W.Frag} {H : Hp} {O : List Addr}
theorem look_ok (k : L2.Key) : ∀ {ds : List (PyData × PyData)} {kvs : List (L2.Key × V)}, DkA K H O ds kvs → (lookD (keyD k) ds = none ∧ valV kvs k = none) ∨ ∃ d v, lookD (keyD k) ds = some d ∧ valV kvs k = some v ∧ Dq K H O d v
  | [], [], _ => .inl ⟨rfl, rfl⟩
  | [], _ :: _, h => by have := h.1; simp at this
  | _ :: _, [], h => by have := h.1; simp at this
  | (j, d) :: ds, (i, v) :: kvs, h => by
    obtain ⟨h1, h2⟩ := h
    rw [List.map_cons, List.map_cons] at h1 h2
    have e1 : j = keyD i := (List.cons.inj h1).1
    have e2 := (List.cons.inj h1).2
    cases h2 with
    | cons hd ht =>
    have e1 : j = keyD i := e1
    subst e1
    unfold lookD
    rw [keyEq_D]
    by_cases z : i = k
    · rw [decide_eq_true z, if_pos rfl]
      exact .inr ⟨d, v, rfl, valV_pos z, hd⟩
    · rw [decide_eq_false z, if_neg Bool.false_ne_true, valV_neg z]
      exact look_ok k ⟨e2, ht⟩
end
theorem uniq_nodup : ∀ {ks : List L2.Key}, uniqD (ks.map keyD) = true → ks.Nodup
  | [], _ => List.nodup_nil
  | k :: r, h => by
    rw [List.map_cons, uniqD, Bool.and_eq_true, Bool.and_eq_true] at h
    refine List.nodup_cons.mpr ⟨fun m => ?_, uniq_nodup h.2⟩
    have h2 := h.1.2
    rw [Bool.not_eq_true', List.any_eq_false] at h2
    have := h2 (keyD k) (List.mem_map_of_mem m)
    rw [keyEq_D, decide_eq_true rfl] at this
    exact this rfl
theorem merge_app : ∀ (more kvs : List (L2.Key × V)), ((kvs ++ more).map (·.1)).Nodup → mergeK kvs more = kvs ++ more
  | [], kvs, _ => by simp [mergeK]
  | (k, v) :: r, kvs, h => by
    unfold mergeK
    rw [List.foldl_cons]
    have hk : valV kvs k = none := by
      cases e : valV kvs k with
      | none => rfl
      | some u =>
        exfalso
        have h1 : (valV kvs k).isSome = true := by rw [e]; rfl
        rw [← valV_any, List.any_eq_true] at h1
        obtain ⟨kv, m, z⟩ := h1
        have z := of_decide_eq_true z
        rw [List.map_append, List.nodup_append] at h
        exact h.2.2 k (List.mem_map.mpr ⟨kv, m, z⟩) k (by simp) rfl
    rw [putK_new v hk]
    have := merge_app r (kvs ++ [(k, v)]) (by simpa using h)
    unfold mergeK at this
    rw [this]
    simp
section
variable (X : Cx)
def trsK : List L2.Key → List Expr → List (TE × TE)
  | k :: ks, e :: es => (tC (kV k), twp X e) :: trsK ks es
  | _, _ => []
def zipV : List L2.Key → List V → List (V × V)
  | k :: ks, v :: vs => (kV k, v) :: zipV ks vs
  | _, _ => []
variable (Φ : Phi)
def OkPs (ks : List L2.Key) (cs : CEs) (es : List Expr) : Prop := ∀ (ρ : Rho) (ds : List PyData) (ρ' : Rho), evs Φ cs ρ = some (ds, ρ') → ∀ (σ : L2.St) (H : Hp) (O : List Addr), Rp X.K H O ρ σ → ∀ Q : List (V × V) → Hp → Prop,
  (∀ vs H' O', Nx X.K H O ρ σ H' O' ρ' → DqA X.K H' O' ds vs → Q (zipV ks vs) H') → tPairs (trsK X ks es) σ H Q
end
section
variable {X : Cx} {Φ : Phi} {c a x d : CE} {e ea ex ed : Expr} {cs : CEs} {es : List Expr} {pos apos : Pos} {ks : List L2.Key} {k : L2.Key}
theorem okPs_nil : OkPs X Φ [] .nil [] := by
  intro ρ ds ρ' hv σ H O rp Q q
  rw [evs] at hv
  cases hv
  exact q [] H O (Nx.refl rp) .nil
theorem okPs_cons (h : OkE X Φ c e) (ht : OkPs X Φ ks cs es) : OkPs X Φ (k :: ks) (.cons c cs) (e :: es) := by
  intro ρ ds ρ' hv σ H O rp Q q
  rw [evs] at hv
  obtain ⟨⟨r, ρ1⟩, h1, hv⟩ := Option.bind_eq_some_iff.mp hv
  obtain ⟨x, h2, hv⟩ := Option.bind_eq_some_iff.mp hv
  obtain ⟨⟨xs, ρ2⟩, h3, e2⟩ := Option.map_eq_some_iff.mp hv
  cases e2
  refine h.data h1 h2 rp fun v H1 O1 n1 d1 => ?_
  refine ht ρ1 xs _ h3 σ H1 O1 n1.rp _ fun vs H2 O2 n2 d2 => ?_
  exact q _ H2 O2 (n1.trans rp n2) (.cons (Dq.ext n1.rp.dom (n2.ext n1.rp) d1) d2)
/-- a display's keys, as they are written -/
inductive KeysT (X : Cx) : List L2.Key → List (Option Expr) → Prop
  | nil : KeysT X [] []
  | cons {k : L2.Key} {e : Expr} {ks : List L2.Key} {es : List (Option Expr)} : PE X e (tC (kV k)) → KeysT X ks es → KeysT X (k :: ks) (some e :: es)
theorem KeysT.pps {ks : List L2.Key} {keys : List (Option Expr)} (h : KeysT X ks keys) : ∀ {es : List Expr}, es.length = keys.length → PPs X pos keys es (trsK X ks es) := by
  induction h with
  | nil =>
    intro es hl
    cases es with
    | nil => exact pps_nil
    | cons _ _ => cases hl
  | cons hk t ih =>
    intro es hl
    cases es with
    | nil => cases hl
    | cons e es => exact pps_cons hk pe_wp (ih (by simpa using hl))
theorem KeysT.some {ks : List L2.Key} {keys : List (Option Expr)} (h : KeysT X ks keys) : keys.all (·.isSome) = true ∧ keys.length = ks.length := by
  induction h with
  | nil => exact ⟨rfl, rfl⟩
  | cons hk t ih => exact ⟨by rw [List.all_cons, ih.1]; rfl, by rw [List.length_cons, ih.2, List.length_cons]⟩
theorem zipV_map : ∀ {ks : List L2.Key} {vs : List V}, ks.length = vs.length → zipV ks vs = (ks.zip vs).map fun kv => (kV kv.1, kv.2)
  | [], [], _ => rfl
  | k :: ks, v :: vs, h => by
    rw [zipV, List.zip_cons_cons, List.map_cons, zipV_map (by simpa using h)]
  | [], _ :: _, h => by cases h
  | _ :: _, [], h => by cases h
theorem okE_dsp {keys : List (Option Expr)} (hk : KeysT X ks keys) (hl : es.length = keys.length) (hs : OkPs X Φ ks cs es) : OkE X Φ (.dsp (ks.map keyD) cs) (.Dict keys es pos) := by
  intro ρ r ρ' hv σ H O rp Q q
  rw [ev] at hv
  obtain ⟨⟨ds, ρ1⟩, h1, hv⟩ := Option.bind_eq_some_iff.mp hv
  obtain ⟨r', h2, e2⟩ := Option.map_eq_some_iff.mp hv
  cases e2
  unfold dspD at h2
  split at h2
  rotate_left
  · cases h2
  rename_i hu
  obtain ⟨u1, u2, u3, u4⟩ := hu
  cases h2
  rw [List.length_map] at u2 u3 u4
  obtain ⟨k1, k2⟩ := hk.some
  have h0 : keys ≠ [] := fun z => by
    rw [z] at k2
    simp only [List.length_nil] at k2
    omega
  refine of_pe (pe_disp (pos := pos) (hk.pps hl) k1 hl.symm h0 (by rw [k2]; exact u4)) ?_
  intro p hp
  have no : ∀ {ρ2 : Rho} {H2 : Hp} {O2 : List Addr}, Nx X.K H O ρ σ H2 O2 ρ2 → ¬ Own ρ2 σ p := fun n z => rp.own_dom (n.own p z) hp
  have st : Stp H O (fun _ => False) (L2.upd H p (.dK [])) (p :: O) := Stp.newO hp
  have n0 : Nx X.K H O ρ σ (L2.upd H p (.dK [])) (p :: O) ρ := Nx.plain rp st ((rp.dom.new hp).cons upd_same rfl)
  refine hs ρ ds _ h1 σ _ _ n0.rp _ fun vs H' O' n1 d1 => ?_
  have n := n0.trans rp n1
  have hnp : ¬ Own ρ σ p := fun z => rp.own_dom z hp
  have hH : H' p = some (.dK []) := n1.st.keep p _ upd_same hnp
  have hm : p ∈ O' := n1.st.pend p List.mem_cons_self hnp
  have hlv : ks.length = vs.length := by rw [u2, d1.length]
  have hm2 : (ks.zip vs).map (·.1) = ks := List.map_fst_zip (Nat.le_of_eq hlv)
  refine ⟨hH, ks.zip vs, zipV_map hlv, by rw [List.length_zip]; omega, ?_⟩
  have hmer : mergeK [] (ks.zip vs) = ks.zip vs := by
    have := merge_app (ks.zip vs) [] (by rw [List.nil_append, hm2]; exact uniq_nodup u1)
    simpa using this
  rw [hmer]
  have s2 : Stp H' O' (fun b => b = p) (L2.upd H' p (.dK (ks.zip vs))) (less O' p) := (Stp.wr (p := p)).trans Stp.give (fun _ z => .inl z) n1.rp.dom
  have ow2 : Ow (L2.upd H' p (.dK (ks.zip vs))) (less O' p) := (n1.rp.dom.upd rfl).less
  have n2 : Nx X.K H O ρ σ (L2.upd H' p (.dK (ks.zip vs))) (less O' p) ρ1 := ⟨n.st.trans s2 (fun b z => .inr (by rw [z]; exact hp)) rp.dom, n.rp.step s2 (fun b z => by rw [z]; exact ⟨hm, no n⟩) ow2, n.ls⟩
  have ex : Ext H' O' (L2.upd H' p (.dK (ks.zip vs))) (less O' p) := s2.ext fun b z => by rw [z]; exact hm
  refine q _ _ _ n2 ⟨p, ks.zip vs, rfl, fun z => (mem_less.mp z).2 rfl, upd_same, ?_, ?_⟩
  · rw [List.map_fst_zip (by rw [List.length_map, u2]; exact Nat.le_refl _)]
    have : (ks.zip vs).map (fun kv => keyD kv.1) = ((ks.zip vs).map (·.1)).map keyD := by rw [List.map_map]; rfl
    rw [this, hm2]
  · rw [List.map_snd_zip (by rw [List.length_map, u2]; exact Nat.le_refl _), List.map_snd_zip (by rw [hlv]; exact Nat.le_refl _)]
    exact DqA.ext n1.rp.dom ex d1
/-- d[k] -/
theorem okE_dix (hu : X.A.units + 1 < cLine) (hn : notSlice ex = true) (ha : OkE X Φ a ea) (hx : OkE X Φ x ex) : OkE X Φ (.dix a x) (.Subscript ea ex pos) := by
  intro ρ r ρ' hv σ H O rp Q q
  rw [ev] at hv
  obtain ⟨⟨ra, ρ1⟩, h1, hv⟩ := Option.bind_eq_some_iff.mp hv
  obtain ⟨kvs, h2, hv⟩ := Option.bind_eq_some_iff.mp hv
  obtain ⟨⟨rx, ρ2⟩, h3, hv⟩ := Option.bind_eq_some_iff.mp hv
  obtain ⟨y, h4, hv⟩ := Option.bind_eq_some_iff.mp hv
  obtain ⟨z, h5, e⟩ := Option.map_eq_some_iff.mp hv
  cases e
  unfold dixD at h5
  split at h5
  rotate_left
  · cases h5
  rename_i hk
  obtain ⟨k, rfl⟩ := keyOk_D hk
  refine of_pe (pe_dget hu pe_wp pe_wp (plain_ix hn)) ?_
  refine ha ρ ra ρ1 h1 σ H O rp _ fun v H1 O1 n1 r1 => ?_
  refine hx.data h3 h4 n1.rp fun u H2 O2 n2 d2 => ?_
  have n := n1.trans rp n2
  have r2 := r1.nx n1.rp (n1.nown rp) n2
  cases ra <;> first | (cases h2; done) | skip
  cases h2
  obtain ⟨b, kv, rfl, _, e1, e2⟩ := r2
  have ek := dq_key d2
  subst ek
  rcases look_ok k e2 with ⟨c1, _⟩ | ⟨dd, v, c1, c2, c3⟩
  · rw [c1] at h5; cases h5
  · rw [c1] at h5
    cases h5
    exact ⟨b, v, rfl, by rw [← c2]; exact DGet.k e1, q v H2 O2 n c3⟩
/-- d.get(k, y) -/
theorem okE_dget (hu : X.A.units + 1 < cLine) (hbase : attributeBase ea "get" X.env (eval ea X.env) = eval ea X.env) (hl : (apos.endLine == pos.line) = true) (hn : notStar ex = true) (hn2 : notStar ed = true) (ha : OkE X Φ a ea) (hx : OkE X Φ x ex) (hd : OkE X Φ d ed) :
    OkE X Φ (.dget a x d) (.Call (.Attribute ea "get" apos) [ex, ed] [] pos) := by
  intro ρ r ρ' hv σ H O rp Q q
  rw [ev] at hv
  obtain ⟨⟨ra, ρ1⟩, h1, hv⟩ := Option.bind_eq_some_iff.mp hv
  obtain ⟨kvs, h2, hv⟩ := Option.bind_eq_some_iff.mp hv
  obtain ⟨⟨rx, ρ2⟩, h3, hv⟩ := Option.bind_eq_some_iff.mp hv
  obtain ⟨y, h4, hv⟩ := Option.bind_eq_some_iff.mp hv
  obtain ⟨⟨rd', ρ3⟩, h5, hv⟩ := Option.bind_eq_some_iff.mp hv
  obtain ⟨z, h6, hv⟩ := Option.bind_eq_some_iff.mp hv
  obtain ⟨w, h7, e⟩ := Option.map_eq_some_iff.mp hv
  cases e
  unfold getD at h7
  split at h7
  rotate_left
  · cases h7
  rename_i hk
  obtain ⟨k, rfl⟩ := keyOk_D hk
  cases h7
  have hs : starEach [ex, ed] X.env = [(false, eval ex X.env), (false, eval ed X.env)] := by rw [star_cons hn, star1 hn2]
  refine of_pe (pe_dget2 hu pe_wp pe_wp pe_wp ⟨hbase, by rw [hs]; rfl, hl, by rw [hs]; rfl⟩) ?_
  refine ha ρ ra ρ1 h1 σ H O rp _ fun v H1 O1 n1 r1 => ?_
  cases ra <;> first | (cases h2; done) | skip
  cases h2
  have hv1 : ∃ b kv, v = .ref b ∧ H1 b = some (.dK kv) := by
    obtain ⟨b, kv, e0, _, e1, _⟩ := r1
    exact ⟨b, kv, e0, e1⟩
  obtain ⟨b, kv, rfl, e1⟩ := hv1
  refine ⟨b, rfl, .inl ⟨kv, .inl e1⟩, ?_⟩
  refine hx.data h3 h4 n1.rp fun u H2 O2 n2 d2 => ?_
  have n12 := n1.trans rp n2
  have r2 := r1.nx n1.rp (n1.nown rp) n2
  refine hd.data h5 h6 n2.rp fun t H3 O3 n3 d3 => ?_
  have n := n12.trans rp n3
  have r3 := r2.nx n12.rp (n12.nown rp) n3
  obtain ⟨b', kv', eb, _, e1', e2⟩ := r3
  cases eb
  have ek := dq_key d2
  subst ek
  refine ⟨valV kv' k, DGet.k e1', ?_⟩
  rcases look_ok k e2 with ⟨c1, c2⟩ | ⟨dd, v, c1, c2, c3⟩
  · rw [c2]
    refine q t H3 O3 n ?_
    rw [c1]
    exact d3
  · rw [c2]
    refine q v H3 O3 n ?_
    rw [c1]
    exact c3
end
end DI

/-! DC8: repr of a display whose items stay their owners'. -/
namespace DI
open PySem L2
section
variable {K : PySem.W.Frag} {H : Hp} {O : List Addr}
theorem BqA.dp : ∀ {ds : List PyData} {vs : List V}, BqA K H O ds vs → DpAll K H vs ds
  | _, _, .nil => .nil
  | _, _, .cons h t => .cons h.dp (BqA.dp t)
theorem BqA.len : ∀ {ds : List PyData} {vs : List V}, BqA K H O ds vs → ds.length = vs.length
  | _, _, .nil => rfl
  | _, _, .cons h t => by rw [List.length_cons, List.length_cons, BqA.len t]
end
section
variable {X : Cx} {Φ : Phi} {cs : CEs} {es : List Expr} {p pos pos2 : Pos} {k0 : Nat}
theorem rpr_fin {x : PyData} {r : R} (h : biF .repr [x] = some r) : r = .d (.str x.shown) ∧ showX x = true ∧ x.hasDict = false ∧ x.depth ≤ 60 ∧ x.shown.length ≤ limLen := by
  unfold biF at h
  simp only at h
  split at h
  · rename_i hh
    cases h
    exact ⟨rfl, hh⟩
  · cases h
theorem okE_rprL (hu : X.A.units + 65 < cLine) (hgd : X.A.guards = some []) (hnl : PySem.W.nsIn X.K cStatics digitsName = some none) (hg : Gl X "repr") (hm : X.mg "repr" = none) (hB : OkBs X Φ cs es) :
    OkE X Φ (.rpr false cs) (.Call (.Name "repr" p) [.List es pos2] [] pos) := by
  intro ρ r ρ' hv σ H O rp Q q
  rw [ev] at hv
  obtain ⟨⟨as, ρ1⟩, h1, hv⟩ := Option.bind_eq_some_iff.mp hv
  obtain ⟨xs, h2, hv⟩ := Option.bind_eq_some_iff.mp hv
  simp only at hv
  split at hv
  rotate_left
  · cases hv
  rename_i hl
  obtain ⟨r', h3, e⟩ := Option.map_eq_some_iff.mp hv
  cases e
  have h3 : biF .repr [PyData.list xs] = _ := h3
  obtain ⟨er, c1, c2, c3, c4⟩ := rpr_fin h3
  subst er
  have hb : bootBuiltins "repr" = some (.builtin "repr") := by decide +kernel
  refine of_pe (pe_callB (cr_repr hu hgd hnl) hg hm hb (pa_cons (pe_lst pa_wp) pa_nil rfl) (by decide) (by decide) rfl rfl) ?_
  refine hB ρ as _ h1 σ H O rp _ fun vs H1 O1 n1 r1 => ⟨?_, fun l hl1 => ?_⟩
  · rw [← (rds_ok n1.rp r1 h2).len]
    exact lim_line hl
  · have n2 := n1.trans rp (Nx.plain n1.rp (Stp.new1 hl1) (n1.rp.dom.new (o := .lst vs) hl1))
    have r2 := r1.nx n1.rp (n1.nown rp) (Nx.plain n1.rp (Stp.new1 hl1) (n1.rp.dom.new (o := .lst vs) hl1))
    have d2 := (rds_ok n2.rp r2 h2).dp
    exact ⟨_, _, rfl, .lst (SqL.of upd_same) d2, c1, c2, c3, lim_line c4, q _ _ _ n2 (.str _)⟩
theorem okE_rprT (hu : X.A.units + 65 < cLine) (hgd : X.A.guards = some []) (hnl : PySem.W.nsIn X.K cStatics digitsName = some none) (hg : Gl X "repr") (hm : X.mg "repr" = none) (hB : OkBs X Φ cs es) :
    OkE X Φ (.rpr true cs) (.Call (.Name "repr" p) [.Tuple es k0 pos2] [] pos) := by
  intro ρ r ρ' hv σ H O rp Q q
  rw [ev] at hv
  obtain ⟨⟨as, ρ1⟩, h1, hv⟩ := Option.bind_eq_some_iff.mp hv
  obtain ⟨xs, h2, hv⟩ := Option.bind_eq_some_iff.mp hv
  simp only at hv
  split at hv
  rotate_left
  · cases hv
  rename_i hl
  obtain ⟨r', h3, e⟩ := Option.map_eq_some_iff.mp hv
  cases e
  have h3 : biF .repr [PyData.tuple xs] = _ := h3
  obtain ⟨er, c1, c2, c3, c4⟩ := rpr_fin h3
  subst er
  have hb : bootBuiltins "repr" = some (.builtin "repr") := by decide +kernel
  refine of_pe (pe_callB (cr_repr hu hgd hnl) hg hm hb (pa_cons (pe_tup pa_wp) pa_nil rfl) (by decide) (by decide) rfl rfl) ?_
  refine hB ρ as _ h1 σ H O rp _ fun vs H1 O1 n1 r1 => ⟨?_, fun l hl1 => ?_⟩
  · rw [← (rds_ok n1.rp r1 h2).len]
    exact lim_line hl
  · have n2 := n1.trans rp (Nx.plain n1.rp (Stp.new1 hl1) (n1.rp.dom.new (o := .tup vs) hl1))
    have r2 := r1.nx n1.rp (n1.nown rp) (Nx.plain n1.rp (Stp.new1 hl1) (n1.rp.dom.new (o := .tup vs) hl1))
    have d2 := (rds_ok n2.rp r2 h2).dp
    exact ⟨_, _, rfl, .tup (SqT.of upd_same) d2, c1, c2, c3, lim_line c4, q _ _ _ n2 (.str _)⟩
end
end DI

/-! DC9: dict(zip(a, b)). -/
namespace DI
open PySem PySem.Spec PyProof.Rows L2
section
variable {X : Cx}
/-- the pairs of two lists, the first's items keys -/
structure ZipK (xs ys : List V) (kvs : List (L2.Key × V)) : Prop where
  len : kvs.length = min xs.length ys.length
  at_ : ∀ (i : Nat) kv, kvs[i]? = some kv → xs[i]? = some (kV kv.1) ∧ ys[i]? = some kv.2
def tDzip (K : PySem.W.Frag) (t : TA) : TE := fun σ H Q => t σ H fun vs H1 => ∃ (a b : Addr) (xs ys : List V) (kvs : List (L2.Key × V)), vs = [.ref a, .ref b] ∧ SqL K H1 a xs ∧ SqL K H1 b ys ∧ ZipK xs ys kvs ∧
  ∀ p, H1 p = none → Q (.ref p) (L2.upd H1 p (.dK (mergeK [] kvs)))
theorem pairs_kv (X : Cx) : ∀ {xs ys : List V} {us vs : List Value} {kvs : List (L2.Key × V)}, Vals xs us → Vals ys vs → ZipK xs ys kvs → ∃ prs : List (L2.Key × Value), KV kvs prs ∧ prs.length = min us.length vs.length ∧
    ∀ (i : Nat) (k v : Value), us[i]? = some k → vs[i]? = some v → ∃ q, prs[i]? = some (q, v) ∧ keyIs q k = true
  | [], ys, us, vs, kvs, hx, hy, hz => by
    cases hx
    have : kvs = [] := List.length_eq_zero_iff.mp (by rw [hz.len]; simp)
    subst this
    exact ⟨[], .nil, by simp, fun i k v e => by simp at e⟩
  | x :: xs, [], us, vs, kvs, hx, hy, hz => by
    cases hy
    have : kvs = [] := List.length_eq_zero_iff.mp (by rw [hz.len]; simp)
    subst this
    exact ⟨[], .nil, by simp, fun i k v _ e => by simp at e⟩
  | x :: xs, y :: ys, us, vs, kvs, hx, hy, hz => by
    cases hx with
    | cons rx hx =>
    cases hy with
    | cons ry hy =>
    cases kvs with
    | nil => have := hz.len; simp at this
    | cons kv kvs =>
      have h0 := hz.at_ 0 kv rfl
      simp only [List.getElem?_cons_zero] at h0
      have e1 : x = kV kv.1 := Option.some.inj h0.1
      have e2 : y = kv.2 := Option.some.inj h0.2
      subst e1 e2
      have hz' : ZipK xs ys kvs := ⟨by have := hz.len; simp only [List.length_cons] at this; omega, fun i q e => by
        have := hz.at_ (i + 1) q (by simpa using e)
        simpa using this⟩
      obtain ⟨prs, r, l, h⟩ := pairs_kv X hx hy hz'
      refine ⟨(kv.1, _) :: prs, .cons ⟨rfl, ry⟩ r, by simp only [List.length_cons]; omega, fun i k v ek ev => ?_⟩
      cases i with
      | zero =>
        simp only [List.getElem?_cons_zero] at ek ev
        cases ek
        cases ev
        exact ⟨kv.1, rfl, kV_is (P := X.prog) (w := X.w) rx⟩
      | succ i =>
        obtain ⟨q, e1, e2⟩ := h i k v (by simpa using ek) (by simpa using ev)
        exact ⟨q, by simpa using e1, e2⟩
theorem pe_dzip {e e2 : Expr} {ta : TA} {p p2 pos pos2 : Pos} (hc : X.calm = true) (hg : Gl X "dict") (hm : X.mg "dict" = none) (hg2 : Gl X "zip") (hm2 : X.mg "zip" = none) (ha : PA X [e, e2] ta)
    (hs : starEach [e, e2] X.env = (false, eval e X.env) :: starEach [e2] X.env) (hpl : (backTo pos2 (starEach [e2] X.env)).any (·.1) = false) :
    PE X (.Call (.Name "dict" p) [.Call (.Name "zip" p2) [e, e2] [] pos2] [] pos) (tDzip X.K ta) := by
  refine ⟨fun pins s σ H Q I h => ?_⟩
  refine Call_ (ld_blt I hg hm PyProof.Rows.boot_dict (PyProof.Rows.callWith_type1 (rest := []) ?_ rfl rfl))
  show wpAny _ _ (spliced ((false, eval (.Call (.Name "zip" p2) [e, e2] [] pos2) X.env) :: [])) _ _ s
  refine Calls.spliced_cons (Call_ (ld_blt I hg2 hm2 PyProof.Rows.boot_zip (PyProof.Rows.callWith_type1 (thn (ha.run pos2 pins s σ H _ I h) fun us s1 ⟨vs, H1, I1, r1, q1⟩ => ?_) hs hpl)))
  obtain ⟨a, b, xs, ys, kvs, ex, hqx, hqy, hz, q⟩ := q1
  subst ex
  cases r1 with
  | cons r rr =>
  cases rr with
  | cons r' rr =>
  cases rr
  cases r
  cases r'
  obtain ⟨its, rv, p1, z1⟩ := I1.list hqx
  obtain ⟨its2, rv2, p3, z2⟩ := I1.list hqy
  have la : a < s1.heap.objs.size := p1.lt
  have lb : b < s1.heap.objs.size := p3.lt
  refine call_zip_2 p1.isList p3.isList fun h' hz' hTI hTO h1 h2 hsz hk => Calls.spliced_nil ?_
  obtain ⟨prs, rel, hlen, hpr⟩ := pairs_kv X rv rv2 hz
  have P := PairArg.zip (prog := X.prog) (w := X.w) (s1.heap.objs.size + 4) (s1.heap.objs.size + 2) (s1.heap.objs.size + 3) s1.heap.objs.size (s1.heap.objs.size + 1) a b (PySem.W.ktu_apart s1.heap.objs.size a b la lb) its.toArray its2.toArray
  have big : sysModules < h'.objs.size := by rw [hsz]; exact Nat.lt_of_lt_of_le I1.big (Nat.le_add_right _ _)
  have hmin : min its.length its2.length ≤ sizeLine := Nat.le_trans (Nat.min_le_left _ _) (by rw [← rv.length]; exact z1)
  refine PySem.call_dict_pairs (knd := mixKind X.prog X.w) (kvs := prs) (s := { s1 with heap := h' }) P (I1.ok.hd hc) ⟨hz', hTI, ⟨_, _, hTO⟩, h1, h2, p1.isList.at fun o e => hk _ o e, p3.isList.at fun o e => hk _ o e⟩ ⟨by simpa using hlen, fun i k v ⟨e1, e2⟩ => ?_⟩ (by simpa using hmin) fun h'' tk hd hkk => ?_
  · exact hpr i k v (by simpa using e1) (by simpa using e2)
  · have hle : s1.heap.objs.size ≤ h'.objs.size := by rw [hsz]; exact Nat.le_add_right _ _
    have keep : ∀ b o, s1.heap.get? b = some o → h''.get? b = some o := fun c o ec => by
      have hlt := Heap.lt_size ec
      refine hkk c o ?_ (hk c o ec)
      simp only [List.mem_cons, List.not_mem_nil, or_false, not_or]
      exact ⟨Nat.ne_of_lt (Nat.lt_of_lt_of_le hlt (Nat.le_add_right _ _)), Nat.ne_of_lt (Nat.lt_of_lt_of_le hlt (Nat.le_add_right _ _)), Nat.ne_of_lt hlt, Nat.ne_of_lt (Nat.lt_of_lt_of_le hlt (Nat.le_add_right _ _))⟩
    have hm : (h'.objs.size == sysModules) = false := beq_eq_false_iff_ne.mpr (Nat.ne_of_gt big)
    have hl2 : (mergeK [] kvs).length ≤ sizeLine := by
      refine Nat.le_trans (length_mergeK kvs []) ?_
      rw [List.length_nil, Nat.zero_add, rel.length, hlen]
      exact hmin
    exact ⟨.ref h'.objs.size, L2.upd H1 h'.objs.size (.dK (mergeK [] kvs)), I1.laid (t' := tk) keep hle (show ObjOk X.prog X.w _ _ _ (.dK (mergeK [] kvs)) from ⟨hl2, hm, merged [] prs, KV.merge rel .nil, hd⟩), rfl, q _ (I1.hok.fresh hle)⟩
end
section
variable {K : PySem.W.Frag} {H : Hp} {O : List Addr}
theorem DqA.map2 {ds ds' : List (PyData × PyData)} {kvs kvs' : List (L2.Key × V)} (h : DqA K H O (ds.map (·.2)) (kvs.map (·.2))) (e : ds' = ds) (f : kvs' = kvs) : DqA K H O (ds'.map (·.2)) (kvs'.map (·.2)) := by rw [e, f]; exact h
theorem put_any {k : L2.Key} : ∀ {ds : List (PyData × PyData)} {kvs : List (L2.Key × V)}, ds.map (·.1) = kvs.map (fun kv => keyD kv.1) → (ds.any fun p => keyEq p.1 (keyD k)) = kvs.any fun kv => decide (kv.1 = k)
  | [], [], _ => rfl
  | [], _ :: _, h => by simp at h
  | _ :: _, [], h => by simp at h
  | (j, d) :: ds, (i, v) :: kvs, h => by
    rw [List.map_cons, List.map_cons] at h
    have e1 : j = keyD i := (List.cons.inj h).1
    subst e1
    rw [List.any_cons, List.any_cons, put_any (List.cons.inj h).2, keyEq_D]
theorem put_map {k : L2.Key} {d : PyData} {v : V} (hd : Dq K H O d v) : ∀ {ds : List (PyData × PyData)} {kvs : List (L2.Key × V)}, DkA K H O ds kvs →
    DkA K H O (ds.map fun p => if keyEq p.1 (keyD k) = true then (p.1, d) else p) (kvs.map fun kv => if kv.1 = k then (kv.1, v) else kv)
  | [], [], _ => ⟨rfl, .nil⟩
  | [], _ :: _, h => by have := h.1; simp at this
  | _ :: _, [], h => by have := h.1; simp at this
  | (j, d0) :: ds, (i, v0) :: kvs, h => by
    obtain ⟨h1, h2⟩ := h
    rw [List.map_cons, List.map_cons] at h1 h2
    have e1 : j = keyD i := (List.cons.inj h1).1
    subst e1
    cases h2 with
    | cons hd0 ht =>
    obtain ⟨i1, i2⟩ := put_map (k := k) hd ⟨(List.cons.inj h1).2, ht⟩
    by_cases z : i = k
    · have z' : keyEq (keyD i) (keyD k) = true := by rw [keyEq_D, decide_eq_true z]
      refine ⟨?_, ?_⟩
      · simp only [List.map_cons, z', if_true, if_pos z]
        rw [i1]
      · simp only [List.map_cons, z', if_true, if_pos z]
        exact .cons hd i2
    · have z' : keyEq (keyD i) (keyD k) = false := by rw [keyEq_D, decide_eq_false z]
      refine ⟨?_, ?_⟩
      · simp only [List.map_cons, z', Bool.false_eq_true, if_false, if_neg z]
        rw [i1]
      · simp only [List.map_cons, z', Bool.false_eq_true, if_false, if_neg z]
        exact .cons hd0 i2
theorem put_ok {k : L2.Key} {d : PyData} {v : V} {ds : List (PyData × PyData)} {kvs : List (L2.Key × V)} (hd : Dq K H O d v) (h : DkA K H O ds kvs) : DkA K H O (putD (keyD k) d ds) (putK kvs k v) := by
  unfold putD putK
  rw [put_any h.1]
  split
  · exact put_map hd h
  · refine ⟨by rw [List.map_append, List.map_append, h.1]; rfl, ?_⟩
    rw [List.map_append, List.map_append]
    exact h.2.append (.cons hd .nil)
theorem fold_ok : ∀ {xs ys : List PyData} {vs ws : List V} {ds : List (PyData × PyData)} {kvs : List (L2.Key × V)}, intKeys xs = true → DqA K H O xs vs → DqA K H O ys ws → DkA K H O ds kvs →
    ∃ ps : List (L2.Key × V), ZipK vs ws ps ∧ DkA K H O ((xs.zip ys).foldl (fun acc p => putD p.1 p.2 acc) ds) (mergeK kvs ps)
  | [], ys, vs, ws, ds, kvs, _, hx, hy, h => by
    cases hx
    exact ⟨[], ⟨by simp, fun i kv e => by simp at e⟩, h⟩
  | x :: xs, [], vs, ws, ds, kvs, _, hx, hy, h => by
    cases hy
    exact ⟨[], ⟨by simp, fun i kv e => by simp at e⟩, h⟩
  | x :: xs, y :: ys, vs, ws, ds, kvs, hi, hx, hy, h => by
    cases hx with
    | cons rx hx =>
    cases hy with
    | cons ry hy =>
    cases x <;> first | (cases hi; done) | skip
    rename_i i
    cases rx
    obtain ⟨ps, z, r⟩ := fold_ok (ds := putD (.int i) y ds) (kvs := putK kvs (Sum.inl i) _) (show intKeys xs = true from hi) hx hy (put_ok (k := Sum.inl i) ry h)
    refine ⟨(Sum.inl i, _) :: ps, ⟨by simp only [List.length_cons]; have := z.len; omega, fun j kv e => ?_⟩, r⟩
    cases j with
    | zero =>
      simp only [List.getElem?_cons_zero] at e
      cases e
      exact ⟨rfl, rfl⟩
    | succ j => simpa using z.at_ j kv (by simpa using e)
end
section
variable {X : Cx} {Φ : Phi} {ca cb : CE} {ea eb : Expr} {p p2 pos pos2 : Pos}
theorem okE_dzip (hc : X.calm = true) (hg : Gl X "dict") (hm : X.mg "dict" = none) (hg2 : Gl X "zip") (hm2 : X.mg "zip" = none) (hn : notStar ea = true) (hn2 : notStar eb = true) (ha : OkE X Φ ca ea) (hb : OkE X Φ cb eb) :
    OkE X Φ (.dzip ca cb) (.Call (.Name "dict" p) [.Call (.Name "zip" p2) [ea, eb] [] pos2] [] pos) := by
  intro ρ r ρ' hv σ H O rp Q q
  rw [ev] at hv
  obtain ⟨⟨r1, ρ1⟩, h1, hv⟩ := Option.bind_eq_some_iff.mp hv
  obtain ⟨⟨r2, ρ2⟩, h2, hv⟩ := Option.bind_eq_some_iff.mp hv
  obtain ⟨x, h3, hv⟩ := Option.bind_eq_some_iff.mp hv
  obtain ⟨y, h4, hv⟩ := Option.bind_eq_some_iff.mp hv
  simp only at hv
  split at hv
  · rename_i xs ys
    obtain ⟨r', h5, e⟩ := Option.map_eq_some_iff.mp hv
    cases e
    unfold dzipD at h5
    split at h5
    · rename_i hi
      cases h5
      refine of_pe (pe_dzip hc hg hm hg2 hm2 (pa_cons pe_wp (pa_cons pe_wp pa_nil (star1 hn2)) (star_cons hn)) (star_cons hn) (star_plain (by simp [hn2]))) ?_
      refine ha.data h1 h3 rp fun v H1 O1 n1 d1 => ?_
      refine hb.data h2 h4 n1.rp fun u H2 O2 n2 d2 => ?_
      have n := n1.trans rp n2
      have d1' := Dq.ext n1.rp.dom (n2.ext n1.rp) d1
      cases d1' with
      | lst hA _ dA =>
      cases d2 with
      | lst hB _ dB =>
      obtain ⟨ps, z, r⟩ := fold_ok hi.1 dA dB (ds := []) (kvs := []) ⟨rfl, .nil⟩
      refine ⟨_, _, _, _, ps, rfl, SqL.of hA, SqL.of hB, z, fun p hp => ?_⟩
      have st : Stp H2 O2 (fun _ => False) (L2.upd H2 p (.dK (mergeK [] ps))) O2 := Stp.new1 hp
      have n' := n.trans rp (Nx.plain n.rp st (n.rp.dom.new hp))
      have no : p ∉ O2 := fun m => by
        obtain ⟨o, e, _⟩ := n.rp.dom p m
        rw [hp] at e
        cases e
      exact q _ _ O2 n' ⟨p, _, rfl, no, upd_same, r.1, DqA.ext n.rp.dom (ext_new hp) r.2⟩
    · cases h5
  · cases hv
end
end DI

/-! DC10: max(a list of ints, default=d). -/
namespace DI
open PySem PySem.Spec PyProof.Rows L2
/-- the best so far, kept twice -/
def bestA : Option Value → Array Value
  | none => #[]
  | some v => #[v, v]
def bestI : List Int → Option Int → Option Int
  | [], m => m
  | k :: r, none => bestI r (some k)
  | k :: r, some m => bestI r (some (if k > m then k else m))
section
variable {prog : Program} {w : World} {A : Around} {R : Result → Shared → Prop}
theorem maxd_run {I l S : Addr} {d : Value} {items : Array Value} (hh : A.handled = none) (lI : l ≠ I) (SI : S ≠ I) (Sl : S ≠ l) :
    ∀ (ns : List Int) (i : Nat) (s : Shared) (b : Option Int) (bv : Option Value) (c : Nat), (∀ (j : Nat) k, ns[j]? = some k → ∃ t, items[i + j]? = some (.int k t)) → items.size = i + ns.length →
      s.heap.IsListIter I l i → s.heap.IsList l items → s.heap.get? S = some { cls := .type "list", dict := none, data := .seq (bestA bv) c, slots := #[] } →
      (match b, bv with
        | none, none => True
        | some m, some v => ∃ t, v = .int m t
        | _, _ => False) →
      (∀ v h' tk, (match bestI ns b with
        | some m => ∃ t, v = .int m t
        | none => v = d) → (∀ a o, a ≠ I → a ≠ S → s.heap.get? a = some o → h'.get? a = some o) → R (.ok (.ret v)) { s with heap := h', toks := tk }) →
      codeAny (model prog w) A (.builtin "max.loop" ⟨[.ref I, .none, .ref S], [(Str.ofString "default", d)]⟩) R s
  | [], i, s, b, bv, c, hit, hsz, hI, hl, hS, hb, hR => by
    refine codeAny_builtin F.entry_max_loop ?_
    rw [Around.under_plainId F.plain_max_loop _]
    show wpAny _ A.in1 (seqItems? (.ref S) >>= _) _ _ s
    refine wpAny_bind (wpAny_seqItems hS rfl ?_)
    show wpAny _ A.in1 (tryCatch (pyNext (.ref I)) _ >>= _) _ _ s
    refine wpAny_bind (wpAny_tryCatch (wpAny_pyNext_list_end (by simp [hh]) hI hl (Array.getElem?_eq_none (by rw [hsz]; simp)) fun h' hk => ?_))
    have hS' : h'.get? S = _ := hk S _ SI hS
    cases bv with
    | none =>
      cases b with
      | some m => exact hb.elim
      | none =>
        show wpAny _ A.in1 (rule _ >>= _) _ _ _
        exact wpAny_bind (wpAny_rule (wpAny_pure (hR d h' s.toks rfl fun a o h1 _ e => hk a o h1 e)))
    | some v =>
      cases b with
      | none => exact hb.elim
      | some m =>
        show wpAny _ A.in1 (updateSeq S (fun _ => #[]) >>= _) _ _ _
        refine wpAny_bind (wpAny_updateSeq hS' rfl (hz := by show 2 ≤ sizeLine; decide) (wpAny_bind (wpAny_letGo (wpAny_pure ?_))))
        exact hR v _ s.toks hb fun a o h1 h2 e => (Heap.get?_update_other _ _ (Ne.symm h2)).trans (hk a o h1 e)
  | k :: ns, i, s, b, bv, c, hit, hsz, hI, hl, hS, hb, hR => by
    obtain ⟨t, ht⟩ := hit 0 k rfl
    rw [Nat.add_zero] at ht
    have hname : (toString "max" ++ toString ".loop" : String) = "max.loop" := by decide
    have hit' : ∀ (j : Nat) q, ns[j]? = some q → ∃ t, items[i + 1 + j]? = some (.int q t) := fun j q e => by
      have := hit (j + 1) q (by simpa using e)
      rw [show i + 1 + j = i + (j + 1) by omega]
      exact this
    have hsz' : items.size = i + 1 + ns.length := by rw [hsz, List.length_cons]; omega
    refine codeAny_builtin F.entry_max_loop ?_
    rw [Around.under_plainId F.plain_max_loop _]
    show wpAny _ A.in1 (seqItems? (.ref S) >>= _) _ _ s
    refine wpAny_bind (wpAny_seqItems hS rfl ?_)
    show wpAny _ A.in1 (tryCatch (pyNext (.ref I)) _ >>= _) _ _ s
    refine wpAny_bind (wpAny_tryCatch (wpAny_pyNext_list_item (x := .int k t) hI hl ht fun h1 hI1 hs1 => ?_))
    have hS1 : h1.get? S = _ := (hs1.extBut S _ SI hS)
    have hl1 : h1.IsList l items := hl.extBut hs1.extBut lI
    have keep : ∀ h2, Heap.SameBut S h1 h2 → ∀ a o, a ≠ I → a ≠ S → s.heap.get? a = some o → h2.get? a = some o := fun h2 hs2 a o e1 e2 e => hs2.extBut a o e2 (hs1.extBut a o e1 e)
    -- the rest, from a new best
    have next : ∀ (b' : Option Int) (bv' : Option Value) (h2 : Heap), bestI (k :: ns) b = bestI ns b' → Heap.SameBut S h1 h2 → (∃ c', h2.get? S = some { cls := .type "list", dict := none, data := .seq (bestA bv') c', slots := #[] }) →
        (match b', bv' with
        | none, none => True
        | some m, some v => ∃ t, v = .int m t
        | _, _ => False) → codeAny (model prog w) A (.builtin "max.loop" ⟨[.ref I, .none, .ref S], [(Str.ofString "default", d)]⟩) R { s with heap := h2 } := fun b' bv' h2 e hs2 ⟨c', hS2⟩ hb' =>
      maxd_run hh lI SI Sl ns (i + 1) { s with heap := h2 } b' bv' c' hit' hsz' (hI1.extBut hs2.extBut (Ne.symm SI)) (hl1.extBut hs2.extBut (Ne.symm Sl)) hS2 hb' fun v h' tk hv hk => hR v h' tk (by rw [e]; exact hv) fun a o e1 e2 e3 => hk a o e1 e2 (keep h2 hs2 a o e1 e2 e3)
    cases bv with
    | none =>
      cases b with
      | some m => exact hb.elim
      | none =>
        show wpAny _ A.in1 (updateSeq S (fun _ => #[.int k t, .int k t]) >>= _) _ _ _
        refine wpAny_bind (wpAny_updateSeq hS1 rfl ?_)
        rw [hname]
        exact wpAny_pure ⟨plainId_quiet F.plain_max_loop _, next (some k) (some (.int k t)) _ rfl (Heap.SameBut.update ..) ⟨_, Heap.get?_update_self _ hS1 rfl⟩ ⟨t, rfl⟩⟩
    | some v =>
      cases b with
      | none => exact hb.elim
      | some m =>
        obtain ⟨u, rfl⟩ := hb
        show wpAny _ A.in1 (tryCatch (holding [.int k t, .int k t] (richCompare .Gt (.int k t) (.int m u) >>= _)) _ >>= _) _ _ _
        refine wpAny_bind (wpAny_tryCatch (wpAny_holding (wpAny_bind (CmpOf.ints_gt (prog := prog) (w := w) (A := A.in1) (P := fun i v => (i = 0 → v = Value.int k t) ∧ (i = 1 → v = .int m u) ∧ i < 2) (fun i => if i = 0 then k else m) (fun i v hv => ?_) 0 1 (.int k t) (.int m u) _ _ _ ⟨fun _ => rfl, fun h => (by cases h), by decide⟩ ⟨fun h => (by cases h), fun _ => rfl, by decide⟩ ?_))))
        · obtain ⟨h0, h1', h2'⟩ := hv
          by_cases z : i = 0
          · rw [if_pos z]; exact ⟨t, h0 z⟩
          · rw [if_neg z]; exact ⟨u, h1' (by omega)⟩
        refine wpAny_bind (wpAny_holding (wpAny_truthy_bool ?_))
        refine wpAny_bind (wpAny_letGo (wpAny_pure ?_))
        have e0 : (fun i j : Nat => decide ((if i = 0 then k else m) > if j = 0 then k else m)) 0 1 = decide (k > m) := rfl
        rw [e0]
        by_cases z : k > m
        · rw [decide_eq_true z]
          simp only [if_true]
          refine wpAny_bind (wpAny_updateSeq hS1 rfl (hz := by show 2 ≤ sizeLine; decide) (wpAny_bind (wpAny_letGo ?_)))
          rw [hname]
          exact wpAny_pure ⟨plainId_quiet F.plain_max_loop _, next (some k) (some (.int k t)) _ (by rw [bestI, if_pos z]) (Heap.SameBut.update ..) ⟨_, Heap.get?_update_self _ hS1 rfl⟩ ⟨t, rfl⟩⟩
        · rw [decide_eq_false z]
          simp only [Bool.false_eq_true, if_false]
          refine wpAny_bind (wpAny_letGo ?_)
          rw [hname]
          exact wpAny_pure ⟨plainId_quiet F.plain_max_loop _, next (some m) (some (.int m u)) h1 (by rw [bestI, if_neg z]) (Heap.SameBut.refl _ _) ⟨_, hS1⟩ ⟨u, rfl⟩⟩
end
section
variable {X : Cx}
theorem call_tree_kw {prog : Program} {w : World} {A : Around} {E : Value → Shared → Prop} {s : Shared} {id : String} {b : Builtin} {args : List Value} {kw : List (Str × Value)} {Q : Value → Shared → Prop} (hk : builtinKind id = none) (hp : plainId id = true) (hb : entryFor table id = some b) (ha : argsOk id ⟨args, kw⟩)
    (hc : wpAny (model prog w) A.in1 (b ⟨args, kw⟩) (fun fin s' => match fin with
      | .done f => (match (Except.ok f : Result) with | .ok (.ret v) => Q v s' | .ok _ => False | .error e => E e s')
      | .again c' => c'.quiet = true ∧ codeAny (model prog w) A c' (fun r s' => match r with | .ok (.ret v) => Q v s' | .ok _ => False | .error e => E e s') s') E s) : wpAny (model prog w) A (call (.builtin id) args kw) Q E s := by
  refine wpAny_call (codeAny_call_builtin hp hb ?_)
  simp only [checkBuiltinCall, hk]
  cases hsig : Manifest.signature? id with
  | none => exact wpAny_pure hc
  | some sig =>
    have ha' : Bind.checkArgs id sig ⟨args, kw⟩ = pure () := by simpa only [argsOk, hsig] using ha
    simp only [ha']
    exact wpAny_pure hc
theorem args_maxd (a d : Value) : argsOk "max" ⟨[a], [(Str.ofString "default", d)]⟩ := by unfold argsOk; kernel_rfl
/-- max(xs, default=d) -/
def rMaxD (K : PySem.W.Frag) : List V → List V → Hp → VK → Prop := fun vs zs H Q => ∃ (a : Addr) (ns : List Int) (z : V), vs = [V.ref a] ∧ zs = [z] ∧ SqL K H a (ns.map V.int) ∧ Q (match bestI ns none with
  | some m => .int m
  | none => z) H
theorem cr_maxd (hc : X.calm = true) : CallRK X (.builtin "max") [Str.ofString "default"] (rMaxD X.K) := by
  intro pins s σ H vs zs us ws Q I r rz h
  obtain ⟨a, ns, z, rfl, rfl, hs, q⟩ := h
  obtain rfl := Vals.ref1 r
  obtain ⟨d, rfl, rd⟩ := vals1 rz
  obtain ⟨its, rv, pl, _⟩ := I.list hs
  have hname : (toString "max" ++ toString ".loop" : String) = "max.loop" := by decide
  have hh := I.ok.hd hc
  refine call_tree_kw F.kind_max F.plain_max F.entry_max (args_maxd _ _) ?_
  show wpAny _ X.A.in1 (Builtin.Builtins.bindParams "max" ["key", "default"] 0 ⟨[], [(Str.ofString "default", d)]⟩ >>= _) _ _ s
  refine wpAny_bind (wpAny_of_eq (show Builtin.Builtins.bindParams "max" ["key", "default"] 0 ⟨[], [(Str.ofString "default", d)]⟩ = pure [none, some d] from rfl) ?_)
  refine wpAny_bind (wpAny_pure ?_)
  have la : a < s.heap.objs.size := pl.lt
  refine wpAny_bind (wpAny_pyIter_list pl.isList ?_)
  refine wpAny_bind (wpAny_newObj_type ?_)
  have k1 : ∀ b o, s.heap.get? b = some o → (s.heap.push { cls := .type "list_iterator", data := .fields #[.ref a, .int 0 0] }).get? b = some o := fun b o e => Heap.get?_push_of_some _ e
  generalize hh1 : s.heap.push { cls := .type "list_iterator", data := .fields #[.ref a, .int 0 0] } = h1 at k1 ⊢
  have z1 : h1.objs.size = s.heap.objs.size + 1 := by rw [← hh1]; exact Heap.size_push ..
  have hI : h1.IsListIter s.heap.objs.size a 0 := by rw [← hh1]; exact ⟨_, Heap.get?_push_size _ rfl, rfl, rfl⟩
  have k2 : ∀ b o, h1.get? b = some o → (h1.push { cls := .type "list", data := .seq #[] }).get? b = some o := fun b o e => Heap.get?_push_of_some _ e
  rw [hname]
  refine wpAny_pure ⟨plainId_quiet F.plain_max_loop _, ?_⟩
  refine maxd_run (I := s.heap.objs.size) (l := a) (S := h1.objs.size) (d := d) (items := its.toArray) hh (Nat.ne_of_lt la) (by rw [z1]; exact Nat.succ_ne_self _) (Nat.ne_of_gt (by rw [z1]; exact Nat.lt_succ_of_lt la)) ns 0 _ none none 0 (fun j k e => ?_) (by have := rv.length; simp only [List.length_map] at this; simp [this]) (hI.at fun o e => k2 _ o e) ((pl.isList.at fun o e => k1 _ o e).at fun o e => k2 _ o e) (Heap.get?_push_size _ rfl) trivial fun v h' tk hv hk => ?_
  · have := ints_of_vals (show Vals (ns.map V.int) its from rv)
    have hit := IntsAre.length this
    have hj : j < its.length := by rw [hit]; exact (List.getElem?_eq_some_iff.mp e).1
    obtain ⟨t, et⟩ := IntsAre.int_at this j its[j] (List.getElem?_eq_getElem hj)
    refine ⟨t, ?_⟩
    rw [Nat.zero_add, List.getElem?_toArray, List.getElem?_eq_getElem hj, et, List.getD_eq_getElem?_getD, e]
    try rfl
  · have keep : ∀ b o, s.heap.get? b = some o → h'.get? b = some o := fun b o e => hk b o (Nat.ne_of_lt (Heap.lt_size e)) (Nat.ne_of_lt (by rw [z1]; exact Nat.lt_succ_of_lt (Heap.lt_size e))) (k2 b o (k1 b o e))
    have I2 : Inv X pins σ H { s with heap := h', toks := tk } := I.kept keep
    cases hb : bestI ns none with
    | none =>
      rw [hb] at hv q
      subst hv
      exact ⟨z, H, I2, rd, q⟩
    | some m =>
      rw [hb] at hv q
      obtain ⟨t, rfl⟩ := hv
      exact ⟨.int m, H, I2, ⟨t, rfl⟩, q⟩
end
theorem bestI_max : ∀ (ns : List Int) (m : Int), bestI ns (some m) = some (ns.foldl (fun m x => if m < x then x else m) m)
  | [], m => rfl
  | k :: r, m => by
    rw [bestI, bestI_max r, List.foldl_cons]
theorem bestI_list (ns : List Int) : bestI ns none = listMax ns := by
  cases ns with
  | nil => rfl
  | cons k r => exact bestI_max r k
section
variable {X : Cx} {Φ : Phi} {ca cd : CE} {ea ed : Expr} {p pos kp : Pos}
theorem okE_maxd (hc : X.calm = true) (hg : Gl X "max") (hm : X.mg "max" = none) (hn : notStar ea = true) (ha : OkB X Φ ca ea) (hd : OkE X Φ cd ed) : OkE X Φ (.maxd ca cd) (.Call (.Name "max" p) [ea] [⟨some "default", ed, kp⟩] pos) := by
  intro ρ r ρ' hv σ H O rp Q q
  rw [ev] at hv
  obtain ⟨⟨y, ρ1⟩, h1, hv⟩ := Option.bind_eq_some_iff.mp hv
  obtain ⟨⟨r2, ρ2⟩, h2, hv⟩ := Option.bind_eq_some_iff.mp hv
  obtain ⟨d, h3, hv⟩ := Option.bind_eq_some_iff.mp hv
  obtain ⟨x, h4, hv⟩ := Option.bind_eq_some_iff.mp hv
  simp only at hv
  split at hv
  · rename_i xs
    obtain ⟨r', h5, e⟩ := Option.map_eq_some_iff.mp hv
    cases e
    unfold maxdD at h5
    obtain ⟨ns, h6, h7⟩ := Option.map_eq_some_iff.mp h5
    have hb : bootBuiltins "max" = some (.builtin "max") := by decide +kernel
    refine of_pe (pe_callBK (cr_maxd hc) hg hm hb (pa_cons pe_wp pa_nil (star_cons hn)) (pk_cons pe_wp pk_nil) (by decide) (by decide) (by rw [star_cons hn]; rfl) (by rw [star_cons hn]; rfl) rfl rfl rfl) ?_
    refine ha ρ y ρ1 h1 σ H O rp _ fun v H1 O1 n1 r1 => ?_
    refine hd.data h2 h3 n1.rp fun u H2 O2 n2 d2 => ?_
    have n := n1.trans rp n2
    obtain ⟨a, vs, rfl, hp, dA⟩ := (rd_ok n.rp (r1.nx n1.rp (n1.nown rp) n2) h4).list
    obtain ⟨rfl, rfl⟩ := intsD_ok h6 dA
    refine ⟨a, ns, u, rfl, rfl, SqL.of hp, ?_⟩
    rw [bestI_list]
    cases hm : listMax ns with
    | none =>
      rw [hm] at h7
      cases h7
      exact q u H2 O2 n d2
    | some m =>
      rw [hm] at h7
      cases h7
      exact q (.int m) H2 O2 n (.int m)
  · cases hv
end
end DI

/-! DI15: the checker of expressions: a core term stands for the text. -/
namespace DI
open PySem L2
/-- what is known of the module: the slots of the def, the defs, the constants, the built-ins that nobody covers -/
structure Shp where
  n : Nat
  ks : List Str
  ord : Ord
structure KE where
  N : List Str
  ft : List (Str × Nat × List Bool)
  ct : List (Str × PyData)
  bu : List Str
  kt : List (Str × Nat × List Shp)
def pdEq : Nat → PyData → PyData → Bool
  | 0, _, _ => false
  | n + 1, x, y => match x, y with
    | .none, .none => true
    | .bool a, .bool b => decide (a = b)
    | .int a, .int b => decide (a = b)
    | .str a, .str b => decide (a = b)
    | .list xs, .list ys => decide (xs.length = ys.length) && (xs.zip ys).all fun p => pdEq n p.1 p.2
    | .tuple xs, .tuple ys => decide (xs.length = ys.length) && (xs.zip ys).all fun p => pdEq n p.1 p.2
    | _, _ => false
theorem zip_eq {α : Type} {f : α → α → Bool} : ∀ {xs ys : List α}, xs.length = ys.length → ((xs.zip ys).all fun p => f p.1 p.2) = true → (∀ a b, f a b = true → a = b) → xs = ys
  | [], [], _, _, _ => rfl
  | x :: xs, y :: ys, h, e, k => by
    rw [List.zip_cons_cons, List.all_cons, Bool.and_eq_true] at e
    rw [k x y e.1, zip_eq (by simpa using h) e.2 k]
theorem pdEq_eq : ∀ (n : Nat) (x y : PyData), pdEq n x y = true → x = y
  | 0, _, _, h => by cases h
  | n + 1, x, y, h => by
    cases x <;> cases y <;> first
      | rfl
      | (cases h; done)
      | (rw [pdEq] at h; rw [of_decide_eq_true h])
      | (rw [pdEq, Bool.and_eq_true] at h; rw [zip_eq (of_decide_eq_true h.1) h.2 (pdEq_eq n)])
def visB (sc : Scope) (x : Str) : Bool := match sc.names.lookup x with
  | some .local => true
  | some .cell => true
  | some .free => true
  | _ => false
def locB (sc : Scope) (x : Str) : Bool := match sc.names.lookup x with
  | some .local => true
  | some .cell => true
  | _ => false
def glB (sc : Scope) (x : Str) : Bool := match sc.names.lookup x with
  | some .globalImplicit => true
  | _ => false
def dbgB (x : Str) : Bool := !(x == ("__debug__" : Str))
/-- the name of the i-th slot -/
def ckV (ke : KE) (sc : Scope) (i : Nat) (x : Str) : Bool := decide (ke.N[i]? = some x) && visB sc x && dbgB x && !(x == ("__classdict__" : Str))
def ckC : PyData → Const → Bool
  | .none, .none => true
  | .bool a, .bool b => decide (a = b)
  | .int a, .int b => decide (a = b)
  | .str a, .str b => decide (a = b)
  | _, _ => false
/-- where a def's body or a block of it runs -/
structure Ctx (ke : KE) (Φ : Phi) (sc : Scope) (X : Cx) : Prop where
  calm : X.calm = true
  nd : X.N.Nodup
  N : X.N = ke.N
  units : X.A.units + 65 < cLine
  gd : X.A.guards = some []
  nl : PySem.W.nsIn X.K cStatics digitsName = some none
  keep : ∀ x k, k ≠ NameKind.free → sc.names.lookup x = some k → X.env.scope.names.lookup x = some k
  free : ∀ x, sc.names.lookup x = some .free → X.env.scope.names.lookup x = some .free ∨ X.env.scope.names.lookup x = some .cell
  fn : ∀ x, sc.names.lookup x = some .cell → X.fn x = true
  blt : ∀ x ∈ ke.bu, X.mg x = none
  fns : ∀ x n io, ke.ft.lookup x = some (n, io) → ∃ (k : Nat) (f : Addr) (fd : FuncData) (ps : List Str), FnG X.prog X.w X.K X.mg X.base k f fd ps (spG X.K (Φ n)) ∧ Room k X.A ∧ X.mg x = some (.ref f) ∧ PySem.W.keepIn X.K (.ref f) = true ∧ Binds X.K fd ps []
  fnk : ∀ x n shs, ke.kt.lookup x = some (n, shs) → ∃ (k : Nat) (f : Addr) (fd : FuncData) (ps : List Str), FnG X.prog X.w X.K X.mg X.base k f fd ps (spG X.K (Φ n)) ∧ Room k X.A ∧ X.mg x = some (.ref f) ∧ PySem.W.keepIn X.K (.ref f) = true ∧ ∀ sh ∈ shs, ∃ g, KBn X.K fd ps sh.n sh.ks g (fun vs zs => pickV sh.ord (vs ++ zs))
  cst : ∀ x d, ke.ct.lookup x = some d → ∃ u v, X.mg x = some u ∧ RelV v u ∧ ∀ H O, Dq X.K H O d v
section
variable {ke : KE} {Φ : Phi} {sc scope : Scope} {X : Cx} {x : Str} {own : List (Str × Nat)}
theorem Ctx.vis (C : Ctx ke Φ sc X) (h : visB sc x = true) : Vis X.env.scope x := by
  unfold visB at h
  split at h
  · rename_i e; exact .inl (C.keep x _ (by decide) e)
  · rename_i e; exact .inr (.inl (C.keep x _ (by decide) e))
  · rename_i e
    rcases C.free x e with z | z
    · exact .inr (.inr z)
    · exact .inr (.inl z)
  · cases h
theorem Ctx.loc (C : Ctx ke Φ sc X) (h : locB sc x = true) : Loc X.env.scope x ∧ (X.fn x = true ∨ X.env.scope.names.lookup x = some .local) := by
  unfold locB at h
  split at h
  · rename_i e
    have := C.keep x _ (by decide) e
    exact ⟨.inl this, .inr this⟩
  · rename_i e
    exact ⟨.inr (C.keep x _ (by decide) e), .inl (C.fn x e)⟩
  · cases h
theorem Ctx.gl (C : Ctx ke Φ sc X) (h : glB sc x = true) : Gl X x := by
  unfold glB at h
  split at h
  · rename_i e; exact C.keep x _ (by decide) e
  · cases h
theorem dbg_of (h : dbgB x = true) : (x == ("__debug__" : Str)) = false := by
  unfold dbgB at h
  cases e : (x == ("__debug__" : Str)) with
  | true => rw [e] at h; cases h
  | false => rfl
theorem Ctx.var (C : Ctx ke Φ sc X) {i : Nat} {pos : Pos} (h : ckV ke sc i x = true) : PE X (.Name x pos) (tVar i) := by
  unfold ckV at h
  simp only [Bool.and_eq_true] at h
  obtain ⟨⟨⟨h1, h2⟩, h3⟩, h4⟩ := h
  refine pe_var (by rw [C.N]; exact of_decide_eq_true h1) (C.vis h2) (dbg_of h3) ?_
  cases e : (x == ("__classdict__" : Str)) with
  | true => rw [e] at h4; cases h4
  | false => rfl
/-- the scope that runs, of a block -/
theorem rel_lookup {env : PySem.Env} : ∀ {names : List (Str × NameKind)} {x : Str} {k : NameKind}, names.lookup x = some k →
    (names.map fun (n, k) => if (k == NameKind.free && env.scope.kind == .function && env.kindOf n == some .cell) then (n, NameKind.cell) else (n, k)).lookup x = some k ∨
      (k = .free ∧ (names.map fun (n, k) => if (k == NameKind.free && env.scope.kind == .function && env.kindOf n == some .cell) then (n, NameKind.cell) else (n, k)).lookup x = some .cell)
  | [], _, _, h => by simp at h
  | (n, k0) :: r, x, k, h => by
    have ih := @rel_lookup env r x k
    rw [List.map_cons]
    have e1 : (fun (p : Str × NameKind) => if (p.2 == NameKind.free && env.scope.kind == .function && env.kindOf p.1 == some .cell) = true then (p.1, NameKind.cell) else (p.1, p.2)) (n, k0) =
        (n, if (k0 == NameKind.free && env.scope.kind == .function && env.kindOf n == some .cell) = true then NameKind.cell else k0) := by
      simp only
      split <;> rfl
    show List.lookup x ((fun (p : Str × NameKind) => if (p.2 == NameKind.free && env.scope.kind == .function && env.kindOf p.1 == some .cell) = true then (p.1, NameKind.cell) else (p.1, p.2)) (n, k0) :: _) = _ ∨
      (_ ∧ List.lookup x ((fun (p : Str × NameKind) => if (p.2 == NameKind.free && env.scope.kind == .function && env.kindOf p.1 == some .cell) = true then (p.1, NameKind.cell) else (p.1, p.2)) (n, k0) :: _) = _)
    rw [e1, List.lookup_cons]
    rw [List.lookup_cons] at h
    cases hx : x == n with
    | false =>
      rw [hx] at h
      exact ih h
    | true =>
      rw [hx] at h
      simp only at h ⊢
      cases h
      by_cases c : (k0 == NameKind.free && env.scope.kind == .function && env.kindOf n == some .cell) = true
      · rw [if_pos c]
        rw [Bool.and_eq_true, Bool.and_eq_true] at c
        exact .inr ⟨by simpa using c.1.1, rfl⟩
      · rw [if_neg c]
        exact .inl rfl
theorem Ctx.blk (C : Ctx ke Φ sc X) (s : Shared) (H0 : Hp) (Cc : Addr) (cl : List (Str × Addr)) (fp : List Addr) : Ctx ke Φ scope (X.blk s H0 scope (compEnvC scope cl Cc X.env) fp) where
  calm := C.calm
  nd := C.nd
  N := C.N
  units := C.units
  gd := C.gd
  nl := C.nl
  keep := fun x k hk h => by
    rcases rel_lookup (env := X.env) h with z | ⟨z, _⟩
    · exact z
    · exact (hk z).elim
  free := fun x h => by
    rcases rel_lookup (env := X.env) h with z | ⟨_, z⟩
    · exact .inl z
    · exact .inr z
  fn := fun x h => by
    show (scope.names.lookup x == some .cell) = true
    rw [h]
    rfl
  blt := C.blt
  fns := C.fns
  fnk := C.fnk
  cst := C.cst
/-- the names of a block, seen from the scope that runs -/
theorem Ctx.blkOk (C : Ctx ke Φ sc X) (h : blkC ke.N sc scope own = true) : BlkOk X.N X.env.scope scope own := by
  have b := blkOk_by h
  refine ⟨b.kind, b.uniq, by rw [C.N]; exact b.ix, fun y hy hf => ?_, by rw [C.N]; exact b.own⟩
  rcases b.free y hy hf with z | z
  · exact .inl (C.keep _ _ (by decide) z)
  · exact (C.free _ z).symm
end
/-! ### the checker -/
structure Rc where
  E : Scope → CE → Expr → Bool
  T : Scope → CE → Expr → Bool
  W : Scope → CE → Expr → Bool
  I : Scope → CI → Expr → Expr → Bool
def one? : Expr → Option Expr
  | .BoolOp _ [e] _ => some e
  | _ => none
def bopOk : BOp → Operator → Bool
  | .add, .Add => true | .sub, .Sub => true | .mul, .Mult => true | .fdiv, .FloorDiv => true | .mod, .Mod => true | .pow, .Pow => true | .band, .BitAnd => true | .shl, .LShift => true | .shr, .RShift => true
  | _, _ => false
def copOk (o : COp) (op : CmpOp) : Bool := decide (op = copE o)
def noCall0 : Expr → Bool
  | .Call _ [] [] _ => false
  | _ => true
/-- plain arguments, one by one -/
def ckS (r : Rc) (sc : Scope) : List Expr → CEs → Bool
  | [], .nil => true
  | e :: es, .cons c cs => notStar e && r.E sc c e && ckS r sc es cs
  | _, _ => false
def ordEq : Ord → Ord → Bool
  | [], [] => true
  | (a, d) :: r, (b, e) :: s => decide (a = b) && pdEq 3 d e && ordEq r s
  | _, _ => false
theorem ordEq_eq : ∀ {a b : Ord}, ordEq a b = true → a = b
  | [], [], _ => rfl
  | (a, d) :: r, (b, e) :: s, h => by
    unfold ordEq at h
    simp only [Bool.and_eq_true] at h
    rw [of_decide_eq_true h.1.1, pdEq_eq _ _ _ h.1.2, ordEq_eq h.2]
/-- arguments by keywords, one by one -/
def ckKs (r : Rc) (sc : Scope) : List Keyword → CEs → Bool
  | [], .nil => true
  | ⟨_, e, _⟩ :: es, .cons c cs => r.E sc c e && ckKs r sc es cs
  | _, _ => false
def ckShp (n : Nat) (ks : Option (List Str)) (ord : Ord) (sh : Shp) : Bool := decide (sh.n = n) && decide (ks = some sh.ks) && ordEq sh.ord ord
def ckLen (n : Nat) : CEs → Bool
  | .nil => true
  | .cons _ r => match n with
    | 0 => false
    | n + 1 => ckLen n r
/-- a target -/
def ckG (ke : KE) (sc : Scope) : Nat → Bool → CT → Expr → Bool
  | 0, _, _, _ => false
  | n + 1, pr, t, e => match t with
    | .nm i => (match e with
      | .Name x _ => !pr && decide (ke.N[i]? = some x) && locB sc x
      | _ => false)
    | .tp ts => (match e with
      | .Tuple es _ _ => es.all notStar && decide (es.length = ts.len) && ckGs (ckG ke sc n false) es ts
      | _ => false)
    | .stp ts i us => (match e with
      | .Tuple es _ _ => ckGm (ckG ke sc n false) i us es ts
      | _ => false)
where
  ckGm (f : CT → Expr → Bool) (i : Nat) (us : CTs) : List Expr → CTs → Bool
    | .Starred (.Name x _) _ :: post, .nil => decide (ke.N[i]? = some x) && locB sc x && post.all notStar && decide (post.length = us.len) && ckGs f post us
    | e :: es, .cons t ts => notStar e && f t e && ckGm f i us es ts
    | _, _ => false
  ckGs (f : CT → Expr → Bool) : List Expr → CTs → Bool
    | [], .nil => true
    | e :: es, .cons t ts => f t e && ckGs f es ts
    | _, _ => false
def prI : CI → Bool
  | .enum _ => true
  | .zip _ _ => true
  | _ => false
def subB (as bs : List Nat) : Bool := as.all fun i => decide (i ∈ bs)
def ownOf (ke : KE) (vs : List Nat) : List (Str × Nat) := vs.map fun i => (ke.N.getD i Str.empty, i)
def ckTs (r : Rc) (sc : Scope) : List Expr → CEs → Bool
  | [], .nil => true
  | [e], .cons c .nil => r.T sc c e
  | _, _ => false
def ckLc (ke : KE) (r : Rc) (sc : Scope) (vs : List Nat) (elt : CE) (t : CT) (it : CI) (ifs : CEs) : Expr → Bool
  | .ListComp e [⟨tg, iter, es, a⟩] scope _ => decide (a = 0) && blkC ke.N sc scope (ownOf ke vs) && notSet iter && r.I sc it tg iter && ckG ke scope 20 (prI it) t tg && ckTs r scope es ifs && r.E scope elt e && subB t.sl vs
  | _ => false
def ckLc2 (ke : KE) (r : Rc) (sc : Scope) (vs vs1 : List Nat) (elt : CE) (t : CT) (it : CI) (ifs : CEs) (t1 : CT) (it1 : CI) (ifs1 : CEs) : Expr → Bool
  | .ListComp e [⟨tg, iter, es, a⟩, ⟨tg1, iter1, es1, a1⟩] scope _ => decide (a = 0) && decide (a1 = 0) && blkC ke.N sc scope (ownOf ke vs) && notSet iter && notSet iter1 && r.I sc it tg iter && ckG ke scope 20 (prI it) t tg && ckTs r scope es ifs &&
      r.I scope it1 tg1 iter1 && ckG ke scope 20 (prI it1) t1 tg1 && ckTs r scope es1 ifs1 && r.E scope elt e && subB t.sl vs && subB t1.sl vs1 && subB vs1 vs
  | _ => false
def hdC : CCs → List Nat
  | .last _ => []
  | .cons own _ _ _ _ => own
/-- the later clauses -/
def ckCC (ke : KE) (r : Rc) (scope : Scope) (elt : Expr) : List Comprehension → CCs → Bool
  | [], .last c => r.E scope c elt
  | ⟨tg, iter, es, a⟩ :: gens, .cons own t it ifs rr => decide (a = 0) && notSet iter && r.I scope it tg iter && ckG ke scope 20 (prI it) t tg && ckTs r scope es ifs && subB t.sl own && subB (hdC rr) own && ckCC ke r scope elt gens rr
  | _, _ => false
def ckC1 (ke : KE) (r : Rc) (sc scope : Scope) (elt : Expr) (own : List Nat) (t : CT) (it : CI) (ifs : CEs) (rr : CCs) : List Comprehension → Bool
  | ⟨tg, iter, es, a⟩ :: gens => decide (a = 0) && blkC ke.N sc scope (ownOf ke own) && notSet iter && r.I sc it tg iter && ckG ke scope 20 (prI it) t tg && ckTs r scope es ifs && subB t.sl own && subB (hdC rr) own && ckCC ke r scope elt gens rr
  | [] => false
def ckVs (r : Rc) (sc : Scope) : List Expr → CEs → Bool
  | [], .nil => true
  | e :: es, .cons c cs => r.E sc c e && ckVs r sc es cs
  | _, _ => false
def ckKeys : List PyData → List (Option Expr) → Bool
  | [], [] => true
  | k :: ks, some (.Constant c _ _) :: es => ckC k c && keyOk k && ckKeys ks es
  | _, _ => false
def ckBu (ke : KE) (sc : Scope) (x y : Str) : Bool := decide (x = y) && glB sc x && decide (x ∈ ke.bu)
/-- an expression -/
def stE (ke : KE) (r : Rc) (sc : Scope) (c : CE) (e : Expr) : Bool := match one? e with
  | some e' => r.E sc c e'
  | none => match c with
    | .nev => true
    | .lrg1 a => (match e with
      | .Call (.Name x _) [.Call (.Name y _) [e0] [] _] [] _ => ckBu ke sc x "list" && ckBu ke sc y "range" && notStar e0 && r.E sc a e0
      | _ => false)
    | .lrg2 a b => (match e with
      | .Call (.Name x _) [.Call (.Name y _) [e0, e1] [] _] [] _ => ckBu ke sc x "list" && ckBu ke sc y "range" && notStar e0 && notStar e1 && r.E sc a e0 && r.E sc b e1
      | _ => false)
    | .var i => (match e with
      | .Name x _ => ckV ke sc i x
      | _ => false)
    | .cst d => (match e with
      | .Constant k _ _ => ckC d k
      | _ => false)
    | .glob _ d => (match e with
      | .Name x _ => glB sc x && dbgB x && (match ke.ct.lookup x with
        | some d' => pdEq 40 d d'
        | none => false)
      | _ => false)
    | .bin o a b => (match e with
      | .BinOp ea op eb _ => bopOk o op && r.E sc a ea && r.E sc b eb
      | _ => false)
    | .neg a => (match e with
      | .UnaryOp .USub ea _ => r.E sc a ea
      | _ => false)
    | .not a => (match e with
      | .UnaryOp .Not ea _ => r.E sc a ea
      | _ => false)
    | .cmp o a b => (match e with
      | .Compare ea [op] [eb] _ => copOk o op && notSet eb && r.E sc a ea && r.E sc b eb
      | _ => false)
    | .chain o o2 a b c => (match e with
      | .Compare ea [op, op2] [eb, ec] _ => copOk o op && copOk o2 op2 && notSet ec && r.E sc a ea && r.E sc b eb && r.E sc c ec
      | _ => false)
    | .and a b => (match e with
      | .BoolOp .And (ea :: eb :: es) p => r.E sc a ea && r.E sc b (.BoolOp .And (eb :: es) p)
      | _ => false)
    | .or a b => (match e with
      | .BoolOp .Or (ea :: eb :: es) p => r.E sc a ea && r.E sc b (.BoolOp .Or (eb :: es) p)
      | _ => false)
    | .ite c a b => (match e with
      | .IfExp ec ea eb _ => r.T sc c ec && r.E sc a ea && r.E sc b eb
      | _ => false)
    | .tup cs => (match e with
      | .Tuple es _ _ => ckS r sc es cs
      | _ => false)
    | .lst cs => (match e with
      | .List es _ => ckS r sc es cs
      | _ => false)
    | .call f io cs => (match e with
      | .Call (.Name x _) es [] _ => glB sc x && dbgB x && (match ke.ft.lookup x with
        | some (f', io') => decide (f' = f) && decide (io' = io) && decide (io.length = es.length)
        | none => false) && ckS r sc es cs
      | _ => false)
    | .callK f io cs iok cks ord => (match e with
      | .Call (.Name x _) (e0 :: es) kws _ => glB sc x && dbgB x && (match ke.kt.lookup x with
        | some (f', shs) => decide (f' = f) && shs.any (ckShp (es.length + 1) (kwNs kws) ord)
        | none => false) && decide (io.length = es.length + 1) && decide (iok.length = kws.length) && decide ((ord.filterMap (·.1)).Nodup) && (ord.all fun o => o.1.isSome || flatD o.2) && ckS r sc (e0 :: es) cs && ckKs r sc kws cks
      | _ => false)
    | .bi b cs => (match e with
      | .Call (.Name x _) (e0 :: es) [] _ => ckBu ke sc x (biN b) && ckS r sc (e0 :: es) cs
      | _ => false)
    | .isi t c => (match e with
      | .Call (.Name x _) [e0, .Name y _] [] _ => ckBu ke sc x "isinstance" && ckBu ke sc y (tyNS t) && notStar e0 && r.E sc c e0
      | _ => false)
    | .mu m i cs => (match e with
      | .Call (.Attribute (.Name x _) a apos) es [] pos => decide (a = muN m) && (apos.endLine == pos.line) && decide (es.length < 25) && ckV ke sc i x && ckS r sc es cs
      | _ => false)
    | .mt m o cs => (match e with
      | .Call (.Attribute eo a apos) [e0] [] pos => decide (a = mtN m) && (apos.endLine == pos.line) && noCall0 eo && r.E sc o eo && ckS r sc [e0] cs
      | _ => false)
    | .ix a b => (match e with
      | .Subscript ea eb _ => notSlice eb && r.E sc a ea && r.E sc b eb
      | _ => false)
    | .six i b => (match e with
      | .Subscript (.Name x _) eb _ => notSlice eb && ckV ke sc i x && r.E sc b eb
      | _ => false)
    | .slen i => (match e with
      | .Call (.Name x _) [.Name y _] [] _ => ckBu ke sc x "len" && ckV ke sc i y
      | _ => false)
    | .sl a none none => (match e with
      | .Subscript ea (.Slice none none none _) _ => r.E sc a ea
      | _ => false)
    | .sl a (some lo) none => (match e with
      | .Subscript ea (.Slice (some el) none none _) _ => r.E sc a ea && r.E sc lo el
      | _ => false)
    | .sl a none (some hi) => (match e with
      | .Subscript ea (.Slice none (some eh) none _) _ => r.E sc a ea && r.E sc hi eh
      | _ => false)
    | .sl a (some lo) (some hi) => (match e with
      | .Subscript ea (.Slice (some el) (some eh) none _) _ => r.E sc a ea && r.E sc lo el && r.E sc hi eh
      | _ => false)
    | .rev a => (match e with
      | .Subscript ea (.Slice none none (some (.UnaryOp .USub (.Constant (.int 1) _ _) _)) _) _ => r.E sc a ea
      | _ => false)
    | .sset a => (match e with
      | .Call (.Name x _) [.Call (.Name y _) [e0] [] _] [] _ => ckBu ke sc x "sorted" && ckBu ke sc y "set" && notStar e0 && r.E sc a e0
      | _ => false)
    | .cp .list own t it ifs rr => (match e with
      | .ListComp elt gens scope _ => ckC1 ke r sc scope elt own t it ifs rr gens
      | _ => false)
    | .cp .sset own t it ifs rr => (match e with
      | .Call (.Name x _) [.SetComp elt gens scope _] [] _ => ckBu ke sc x "sorted" && ckC1 ke r sc scope elt own t it ifs rr gens
      | _ => false)
    | .cp .sdict own t it ifs rr => (match e with
      | .Call (.Name x _) [.DictComp elt (.Constant (.bool true) _ _) gens scope _] [] _ => ckBu ke sc x "sorted" && ckC1 ke r sc scope elt own t it ifs rr gens
      | _ => false)
    | .maxd a d => (match e with
      | .Call (.Name x _) [e0] [⟨some k, ed, _⟩] _ => ckBu ke sc x "max" && decide (k = "default") && notStar e0 && r.E sc a e0 && r.E sc d ed
      | _ => false)
    | .dsp ks cs => (match e with
      | .Dict keys es _ => ckKeys ks keys && decide (es.length = keys.length) && ckVs r sc es cs
      | _ => false)
    | .dget a x d => (match e with
      | .Call (.Attribute ea m apos) [ex, ed] [] pos => decide (m = "get") && (apos.endLine == pos.line) && noCall0 ea && notStar ex && notStar ed && r.E sc a ea && r.E sc x ex && r.E sc d ed
      | _ => false)
    | .dix a x => (match e with
      | .Subscript ea ex _ => notSlice ex && r.E sc a ea && r.E sc x ex
      | _ => false)
    | .dzip a b => (match e with
      | .Call (.Name x _) [.Call (.Name y _) [e0, e1] [] _] [] _ => ckBu ke sc x "dict" && ckBu ke sc y "zip" && notStar e0 && notStar e1 && r.E sc a e0 && r.E sc b e1
      | _ => false)
    | .gget _ _ _ _ => false
    | .gix _ _ _ => false
    | .ch3 o o2 o3 a b c d => (match e with
      | .Compare ea [op, op2, op3] [eb, ec, ed] _ => copOk o op && copOk o2 op2 && copOk o3 op3 && notSet ed && r.E sc a ea && r.E sc b eb && r.E sc c ec && r.E sc d ed
      | _ => false)
    | .rpr t cs => (match e with
      | .Call (.Name x _) [.List es _] [] _ => ckBu ke sc x "repr" && !t && ckS r sc es cs
      | .Call (.Name x _) [.Tuple es _ _] [] _ => ckBu ke sc x "repr" && t && ckS r sc es cs
      | _ => false)
    | .lc vs elt t it ifs => ckLc ke r sc vs elt t it ifs e
    | .lc2 vs vs1 elt t it ifs t1 it1 ifs1 => ckLc2 ke r sc vs vs1 elt t it ifs t1 it1 ifs1 e
/-- and, or as tests -/
def stW (r : Rc) (sc : Scope) (c : CE) (e : Expr) : Bool := match one? e with
  | some e' => r.T sc c e'
  | none => match c with
    | .and a b => (match e with
      | .BoolOp .And (ea :: eb :: es) p => r.T sc a ea && r.W sc b (.BoolOp .And (eb :: es) p)
      | _ => false)
    | .or a b => (match e with
      | .BoolOp .Or (ea :: eb :: es) p => r.T sc a ea && r.W sc b (.BoolOp .Or (eb :: es) p)
      | _ => false)
    | _ => false
/-- a value's truth is asked -/
def plainT : Expr → Bool
  | .UnaryOp .Not _ _ => false
  | .BoolOp _ _ _ => false
  | .IfExp _ _ _ _ => false
  | .Compare _ _ _ _ => false
  | _ => true
def plainC : CE → Bool
  | .and _ _ => false
  | .or _ _ => false
  | .not _ => false
  | .ite _ _ _ => false
  | _ => true
def stT (ke : KE) (r : Rc) (sc : Scope) (c : CE) (e : Expr) : Bool := match e with
  | .BoolOp _ _ _ => r.W sc c e
  | .UnaryOp .Not ea _ => (match c with
    | .not a => r.T sc a ea
    | _ => false)
  | .Compare ea [op] [eb] _ => (match c with
    | .cmp o a b => copOk o op && notSet eb && r.E sc a ea && r.E sc b eb
    | _ => false)
  | .Compare ea [op, op2] [eb, ec] _ => (match c with
    | .chain o o2 a b c => copOk o op && copOk o2 op2 && notSet ec && r.E sc a ea && r.E sc b eb && r.E sc c ec
    | _ => false)
  | .Compare ea [op, op2, op3] [eb, ec, ed] _ => (match c with
    | .ch3 o o2 o3 a b c d => copOk o op && copOk o2 op2 && copOk o3 op3 && notSet ed && r.E sc a ea && r.E sc b eb && r.E sc c ec && r.E sc d ed
    | _ => false)
  | e => plainT e && plainC c && r.E sc c e
def stI (ke : KE) (r : Rc) (sc : Scope) (it : CI) (tg : Expr) (e : Expr) : Bool := match it with
  | .val c => r.E sc c e
  | .rng1 c => (match e with
    | .Call (.Name x _) [e0] [] _ => ckBu ke sc x "range" && notStar e0 && r.E sc c e0
    | _ => false)
  | .rng2 c d => (match e with
    | .Call (.Name x _) [e0, e1] [] _ => ckBu ke sc x "range" && notStar e0 && notStar e1 && r.E sc c e0 && r.E sc d e1
    | _ => false)
  | .rng3 c d f => (match e with
    | .Call (.Name x _) [e0, e1, e2] [] _ => ckBu ke sc x "range" && notStar e0 && notStar e1 && notStar e2 && r.E sc c e0 && r.E sc d e1 && r.E sc f e2
    | _ => false)
  | .rev c => (match e with
    | .Call (.Name x _) [e0] [] _ => ckBu ke sc x "reversed" && notStar e0 && r.E sc c e0
    | _ => false)
  | .enum c => (match tg with
    | .Tuple _ _ _ => (match e with
      | .Call (.Name x _) [e0] [] _ => ckBu ke sc x "enumerate" && notStar e0 && r.E sc c e0
      | _ => false)
    | _ => false)
  | .zip c d => (match tg with
    | .Tuple _ _ _ => (match e with
      | .Call (.Name x _) [e0, e1] [] _ => ckBu ke sc x "zip" && notStar e0 && notStar e1 && r.E sc c e0 && r.E sc d e1
      | _ => false)
    | _ => false)
def ckR (ke : KE) : Nat → Rc
  | 0 => ⟨fun _ _ _ => false, fun _ _ _ => false, fun _ _ _ => false, fun _ _ _ _ => false⟩
  | n + 1 => ⟨stE ke (ckR ke n), stT ke (ckR ke n), stW (ckR ke n), stI ke (ckR ke n)⟩
end DI

/-! DI16: what the checker takes is sound. -/
namespace DI
open PySem L2
section
variable {ke : KE} {Φ : Phi} {sc scope : Scope} {X : Cx} {r : Rc}
theorem one_some {e e' : Expr} (h : one? e = some e') : ∃ op pos, e = .BoolOp op [e'] pos := by
  unfold one? at h
  split at h
  · cases h; exact ⟨_, _, rfl⟩
  · cases h
theorem okB_one {c : CE} {e : Expr} {op : BoolOp} {pos : Pos} (h : OkB X Φ c e) : OkB X Φ c (.BoolOp op [e] pos) := by
  intro ρ a ρ' hv σ H O rp Q q
  exact of_pe (pe_one pe_wp) (h ρ a ρ' hv σ H O rp Q q)
/-- good: what is taken stands -/
structure Gd (ke : KE) (Φ : Phi) (r : Rc) : Prop where
  E : ∀ sc X, Ctx ke Φ sc X → ∀ c e, r.E sc c e = true → OkE X Φ c e ∧ OkB X Φ c e
  T : ∀ sc X, Ctx ke Φ sc X → ∀ c e, r.T sc c e = true → OkT X Φ c e
  W : ∀ sc X, Ctx ke Φ sc X → ∀ c e, r.W sc c e = true → OkW X Φ c e
  I : ∀ sc X, Ctx ke Φ sc X → ∀ it tg e, r.I sc it tg e = true → OkI X Φ (prI it) it tg e
theorem bop_eq {o : BOp} {op : Operator} (h : bopOk o op = true) : op = bopE o := by
  cases o <;> cases op <;> first | rfl | cases h
theorem cop_eq {o : COp} {op : CmpOp} (h : copOk o op = true) : op = copE o := of_decide_eq_true h
theorem mark_no {op : CmpOp} {e : Expr} (h : notSet e = true) : behindInMarks op e = false := by
  cases e <;> first | rfl | cases h
theorem base_no {o : Expr} {a : Str} {env : PySem.Env} (h : noCall0 o = true) : attributeBase o a env (eval o env) = eval o env := by
  unfold attributeBase
  split
  · cases h
  · rfl
theorem Gd.S (G : Gd ke Φ r) (C : Ctx ke Φ sc X) : ∀ (es : List Expr) (cs : CEs), ckS r sc es cs = true → OkS X Φ cs es ∧ OkBs X Φ cs es ∧ es.all notStar = true
  | [], .nil, _ => ⟨okS_nil, okBs_nil, rfl⟩
  | e :: es, .cons c cs, h => by
    unfold ckS at h
    simp only [Bool.and_eq_true] at h
    obtain ⟨a, b, d⟩ := Gd.S G C es cs h.2
    obtain ⟨x, y⟩ := G.E sc X C c e h.1.2
    exact ⟨okS_cons h.1.1 x a, okBs_cons h.1.1 y b, by rw [List.all_cons, h.1.1, d]; rfl⟩
  | [], .cons _ _, h => by cases h
  | _ :: _, .nil, h => by cases h
theorem Gd.A (G : Gd ke Φ r) (C : Ctx ke Φ sc X) : ∀ (es : List Expr) (cs : CEs) (io : List Bool), io.length = es.length → ckS r sc es cs = true → OkA X Φ io cs es
  | [], .nil, io, _, _ => okA_nil
  | e :: es, .cons c cs, k :: io, hl, h => by
    unfold ckS at h
    simp only [Bool.and_eq_true] at h
    obtain ⟨x, y⟩ := G.E sc X C c e h.1.2
    exact okA_cons h.1.1 x y (Gd.A G C es cs io (by simpa using hl) h.2)
  | [], .cons _ _, _, _, h => by cases h
  | _ :: _, .nil, _, _, h => by cases h
  | _ :: _, .cons _ _, [], hl, _ => by cases hl
theorem ckS_len {r : Rc} {sc : Scope} : ∀ {es : List Expr} {cs : CEs}, ckS r sc es cs = true → cs.len = es.length
  | [], .nil, _ => rfl
  | e :: es, .cons c cs, h => by
    unfold ckS at h
    rw [Bool.and_eq_true] at h
    rw [CEs.len, ckS_len h.2, List.length_cons]
  | [], .cons _ _, h => by cases h
  | _ :: _, .nil, h => by cases h
theorem ckKs_len {r : Rc} {sc : Scope} : ∀ {es : List Keyword} {cs : CEs}, ckKs r sc es cs = true → cs.len = es.length
  | [], .nil, _ => rfl
  | ⟨_, e, _⟩ :: es, .cons c cs, h => by
    unfold ckKs at h
    rw [Bool.and_eq_true] at h
    rw [CEs.len, ckKs_len h.2, List.length_cons]
  | [], .cons _ _, h => by cases h
  | ⟨_, _, _⟩ :: _, .nil, h => by simp [ckKs] at h
theorem kwNs_len : ∀ {kws : List Keyword} {ks : List Str}, kwNs kws = some ks → ks.length = kws.length
  | [], _, h => by cases h; rfl
  | ⟨some n, _, _⟩ :: r, ks, h => by
    rw [kwNs] at h
    obtain ⟨ks', h1, rfl⟩ := Option.map_eq_some_iff.mp h
    rw [List.length_cons, kwNs_len h1, List.length_cons]
  | ⟨none, _, _⟩ :: _, _, h => by cases h
theorem Gd.K (G : Gd ke Φ r) (C : Ctx ke Φ sc X) : ∀ (es : List Keyword) (cs : CEs) (io : List Bool), io.length = es.length → ckKs r sc es cs = true → OkK X Φ io cs es
  | [], .nil, io, _, _ => okK_nil
  | ⟨_, e, _⟩ :: es, .cons c cs, k :: io, hl, h => by
    unfold ckKs at h
    simp only [Bool.and_eq_true] at h
    obtain ⟨x, y⟩ := G.E sc X C c e h.1
    exact okK_cons x y (Gd.K G C es cs io (by simpa using hl) h.2)
  | [], .cons _ _, _, _, h => by cases h
  | ⟨_, _, _⟩ :: _, .nil, _, _, h => by simp [ckKs] at h
  | _ :: _, .cons _ _, [], hl, _ => by cases hl
theorem Gd.Ts (G : Gd ke Φ r) (C : Ctx ke Φ sc X) : ∀ (es : List Expr) (cs : CEs), ckTs r sc es cs = true → OkTs X Φ cs es
  | [], .nil, _ => okTs_nil
  | [e], .cons c .nil, h => okTs_one (G.T sc X C c e h)
  | [], .cons _ _, h => by cases h
  | _ :: _, .nil, h => by simp [ckTs] at h
  | _ :: _ :: _, .cons _ _, h => by simp [ckTs] at h
  | [_], .cons _ (.cons _ _), h => by simp [ckTs] at h
theorem ckG_ok (C : Ctx ke Φ sc X) (io : List Nat) : ∀ (n : Nat) (pr : Bool) (t : CT) (e : Expr), ckG ke sc n pr t e = true → OkG X pr io t e
  | 0, _, _, _, h => by cases h
  | n + 1, pr, t, e, h => by
    have gs : ∀ (es : List Expr) (ts : CTs), es.all notStar = true → ckG.ckGs (ckG ke sc n false) es ts = true → OkGs X io ts es := by
      intro es
      induction es with
      | nil =>
        intro ts _ h
        cases ts with
        | nil => exact okGs_nil
        | cons _ _ => cases h
      | cons e es ih =>
        intro ts hn h
        cases ts with
        | nil => cases h
        | cons t ts =>
          unfold ckG.ckGs at h
          rw [Bool.and_eq_true] at h
          rw [List.all_cons, Bool.and_eq_true] at hn
          exact okGs_cons hn.1 (ckG_ok C io n false t e h.1).data (ih ts hn.2 h.2)
    have gm : ∀ (i : Nat) (us : CTs) (es : List Expr) (ts : CTs), ckG.ckGm ke sc (ckG ke sc n false) i us es ts = true → OkGm X io ts i us es ∧ (assignEach es X.env).length = ts.len + us.len + 1 ∧ (assignEach es X.env).findIdx? (·.1) = some ts.len := by
      intro i us es
      induction es with
      | nil =>
        intro ts h
        unfold ckG.ckGm at h
        cases ts <;> cases h
      | cons e es ih =>
        intro ts h
        unfold ckG.ckGm at h
        split at h
        · rename_i x _ _ post heq
          cases heq
          simp only [Bool.and_eq_true] at h
          obtain ⟨⟨⟨⟨h1, h2⟩, h3⟩, h4⟩, h5⟩ := h
          obtain ⟨a, b⟩ := C.loc h2
          have h4 := of_decide_eq_true h4
          refine ⟨okGm_star C.nd (by rw [C.N]; exact of_decide_eq_true h1) a b (gs _ _ h3 h5), ?_, ?_⟩
          · show (assignEach _ X.env).length + 1 = _
            rw [each_len h3, h4]
            show _ = 0 + us.len + 1
            omega
          · rfl
        · rename_i e1 es1 t ts heq
          have e1h : e = e1 := by injection heq
          have e2h : es = es1 := by injection heq
          subst e1h e2h
          simp only [Bool.and_eq_true] at h
          obtain ⟨⟨h1, h2⟩, h3⟩ := h
          obtain ⟨a1, a2, a3⟩ := ih _ h3
          refine ⟨okGm_cons h1 (ckG_ok C io n false _ _ h2).data a1, ?_, ?_⟩
          · rw [each_cons h1, List.length_cons, a2]
            simp only [CTs.len]
            omega
          · rw [each_cons h1, List.findIdx?_cons, a3]
            rfl
        · cases h
    unfold ckG at h
    split at h
    · split at h
      · simp only [Bool.and_eq_true] at h
        obtain ⟨⟨h1, h2⟩, h3⟩ := h
        obtain ⟨a, b⟩ := C.loc h3
        cases pr with
        | true => cases h1
        | false => exact (okG_nm C.nd (by rw [C.N]; exact of_decide_eq_true h2) a b).g
      · cases h
    · split at h
      · simp only [Bool.and_eq_true] at h
        obtain ⟨⟨h1, h2⟩, h3⟩ := h
        exact okG_tp C.calm h1 (of_decide_eq_true h2) (gs _ _ h1 h3)
      · cases h
    · split at h
      · obtain ⟨a1, a2, a3⟩ := gm _ _ _ _ h
        exact okG_stp C.calm a2 a3 a1
      · cases h
theorem bu_ok (C : Ctx ke Φ sc X) {x y : Str} (h : ckBu ke sc x y = true) : x = y ∧ Gl X y ∧ X.mg y = none := by
  unfold ckBu at h
  simp only [Bool.and_eq_true] at h
  have e := of_decide_eq_true h.1.1
  subst e
  exact ⟨rfl, C.gl h.1.2, C.blt x (of_decide_eq_true h.2)⟩
theorem sub_ok {as bs : List Nat} (h : subB as bs = true) : ∀ i ∈ as, i ∈ bs := fun i hi => of_decide_eq_true ((List.all_eq_true.mp h) i hi)
theorem own_snd (vs : List Nat) : (ownOf ke vs).map (·.2) = vs := by
  unfold ownOf
  rw [List.map_map]
  exact List.map_id vs
theorem lc_sound (G : Gd ke Φ r) (C : Ctx ke Φ sc X) {vs : List Nat} {elt : CE} {t : CT} {it : CI} {ifs : CEs} {e : Expr} (h : ckLc ke r sc vs elt t it ifs e = true) : OkE X Φ (.lc vs elt t it ifs) e := by
  unfold ckLc at h
  split at h
  · rename_i e1 tg iter es a scope pos
    simp only [Bool.and_eq_true] at h
    obtain ⟨⟨⟨⟨⟨⟨⟨h1, h2⟩, h3⟩, h4⟩, h5⟩, h6⟩, h7⟩, h8⟩ := h
    have ea := of_decide_eq_true h1
    subst ea
    exact okE_lc C.calm C.nd (C.blkOk h2) (own_snd vs) h3 (G.I sc X C it tg iter h4) (fun s H0 Cc cl fp => ckG_ok (C.blk s H0 Cc cl fp) [] _ _ _ _ h5) (fun s H0 Cc cl fp => G.Ts (C.blk s H0 Cc cl fp) _ _ h6) (fun s H0 Cc cl fp => (G.E _ _ (C.blk s H0 Cc cl fp) _ _ h7).1) (sub_ok h8)
  · cases h
theorem lc2_sound (G : Gd ke Φ r) (C : Ctx ke Φ sc X) {vs vs1 : List Nat} {elt : CE} {t t1 : CT} {it it1 : CI} {ifs ifs1 : CEs} {e : Expr} (h : ckLc2 ke r sc vs vs1 elt t it ifs t1 it1 ifs1 e = true) : OkE X Φ (.lc2 vs vs1 elt t it ifs t1 it1 ifs1) e := by
  unfold ckLc2 at h
  split at h
  · rename_i e1 tg iter es a tg1 iter1 es1 a1 scope pos
    simp only [Bool.and_eq_true] at h
    obtain ⟨⟨⟨⟨⟨⟨⟨⟨⟨⟨⟨⟨⟨⟨h1, h2⟩, h3⟩, h4⟩, h5⟩, h6⟩, h7⟩, h8⟩, h9⟩, h10⟩, h11⟩, h12⟩, h13⟩, h14⟩, h15⟩ := h
    have ea := of_decide_eq_true h1
    have eb := of_decide_eq_true h2
    subst ea eb
    exact okE_lc2 C.calm C.nd (C.blkOk h3) (own_snd vs) h4 h5 (G.I sc X C it tg iter h6) (fun s H0 Cc cl fp => ckG_ok (C.blk s H0 Cc cl fp) [] _ _ _ _ h7) (fun s H0 Cc cl fp => G.Ts (C.blk s H0 Cc cl fp) _ _ h8)
      (fun s H0 Cc cl fp => G.I _ _ (C.blk s H0 Cc cl fp) _ _ _ h9) (fun s H0 Cc cl fp => ckG_ok (C.blk s H0 Cc cl fp) [] _ _ _ _ h10) (fun s H0 Cc cl fp => G.Ts (C.blk s H0 Cc cl fp) _ _ h11)
      (fun s H0 Cc cl fp => (G.E _ _ (C.blk s H0 Cc cl fp) _ _ h12).1) (sub_ok h13) (sub_ok h14) (sub_ok h15)
  · cases h
theorem cc_sound (G : Gd ke Φ r) (C : Ctx ke Φ sc X) {elt : Expr} : ∀ {gens : List Comprehension} {rr : CCs}, ckCC ke r scope elt gens rr = true → ∃ celt cls, CpT X Φ scope celt rr gens cls ∧ hdvs cls = hdC rr ∧ (InB X scope fun Y => OkE Y Φ celt elt)
  | [], .last c, h => ⟨c, [], .last, rfl, fun s H0 Cc cl fp => (G.E _ _ (C.blk s H0 Cc cl fp) _ _ h).1⟩
  | [], .cons _ _ _ _ _, h => by cases h
  | ⟨_, _, _, _⟩ :: _, .last _, h => by cases h
  | ⟨tg, iter, es, a⟩ :: gens, .cons own t it ifs rr, h => by
    unfold ckCC at h
    simp only [Bool.and_eq_true] at h
    obtain ⟨⟨⟨⟨⟨⟨⟨h1, h2⟩, h3⟩, h4⟩, h5⟩, h6⟩, h7⟩, h8⟩ := h
    have ea := of_decide_eq_true h1
    subst ea
    obtain ⟨celt, cls, c1, c2, c3⟩ := cc_sound G C h8
    exact ⟨celt, _, .cons (fun s H0 Cc cl fp => G.I _ _ (C.blk s H0 Cc cl fp) _ _ _ h3) (fun s H0 Cc cl fp => ckG_ok (C.blk s H0 Cc cl fp) [] _ _ _ _ h4) (fun s H0 Cc cl fp => G.Ts (C.blk s H0 Cc cl fp) _ _ h5) (sub_ok h6) (by rw [c2]; exact sub_ok h7) h2 c1, rfl, c3⟩
/-- what the first clause gives -/
theorem c1_sound (G : Gd ke Φ r) (C : Ctx ke Φ sc X) {elt : Expr} {own : List Nat} {t : CT} {it : CI} {ifs : CEs} {rr : CCs} {gens : List Comprehension} (h : ckC1 ke r sc scope elt own t it ifs rr gens = true) :
    ∃ tg iter es gs celt cls, gens = ⟨tg, iter, es, 0⟩ :: gs ∧ BlkOk X.N X.env.scope scope (ownOf ke own) ∧ notSet iter = true ∧ (InB X scope fun Y => OkE Y Φ celt elt) ∧ OkI X Φ (prI it) it tg iter ∧ (InB X scope fun Y => OkG Y (prI it) [] t tg) ∧ (InB X scope fun Y => OkTs Y Φ ifs es) ∧
      (∀ i ∈ t.sl, i ∈ own) ∧ (∀ i ∈ hdvs cls, i ∈ own) ∧ CpT X Φ scope celt rr gs cls := by
  cases gens with
  | nil => cases h
  | cons g gs =>
    obtain ⟨tg, iter, es, a⟩ := g
    unfold ckC1 at h
    simp only [Bool.and_eq_true] at h
    obtain ⟨⟨⟨⟨⟨⟨⟨⟨h1, h2⟩, h3⟩, h4⟩, h5⟩, h6⟩, h7⟩, h8⟩, h9⟩ := h
    have ea := of_decide_eq_true h1
    subst ea
    obtain ⟨celt, cls, c1, c2, c3⟩ := cc_sound G C h9
    exact ⟨tg, iter, es, gs, celt, cls, rfl, C.blkOk h2, h3, c3, G.I sc X C it tg iter h4, fun s H0 Cc cl fp => ckG_ok (C.blk s H0 Cc cl fp) [] _ _ _ _ h5, fun s H0 Cc cl fp => G.Ts (C.blk s H0 Cc cl fp) _ _ h6, sub_ok h7, by rw [c2]; exact sub_ok h8, c1⟩
theorem keys_sound : ∀ {ks : List PyData} {keys : List (Option Expr)}, ckKeys ks keys = true → ∃ ls : List L2.Key, ks = ls.map keyD ∧ KeysT X ls keys
  | [], [], _ => ⟨[], rfl, .nil⟩
  | [], _ :: _, h => by cases h
  | _ :: _, [], h => by cases h
  | k :: ks, none :: _, h => by simp [ckKeys] at h
  | k :: ks, some e :: es, h => by
    cases e <;> first | (simp [ckKeys] at h; done) | skip
    unfold ckKeys at h
    simp only [Bool.and_eq_true] at h
    obtain ⟨⟨h1, h2⟩, h3⟩ := h
    obtain ⟨ls, e1, e2⟩ := keys_sound h3
    subst e1
    unfold ckC at h1
    split at h1
    · cases h2
    · cases h2
    · have := of_decide_eq_true h1
      subst this
      exact ⟨.inl _ :: ls, rfl, .cons pe_int e2⟩
    · have := of_decide_eq_true h1
      subst this
      exact ⟨.inr _ :: ls, rfl, .cons pe_str e2⟩
    · cases h1
theorem vs_sound (G : Gd ke Φ r) (C : Ctx ke Φ sc X) : ∀ {ls : List L2.Key} {es : List Expr} {cs : CEs}, es.length = ls.length → ckVs r sc es cs = true → OkPs X Φ ls cs es
  | [], [], .nil, _, _ => okPs_nil
  | [], [], .cons _ _, _, h => by cases h
  | _ :: _, [], _, h, _ => by cases h
  | [], _ :: _, _, h, _ => by cases h
  | l :: ls, e :: es, .nil, _, h => by cases h
  | l :: ls, e :: es, .cons c cs, hl, h => by
    unfold ckVs at h
    rw [Bool.and_eq_true] at h
    exact okPs_cons (G.E sc X C c e h.1).1 (vs_sound G C (by simpa using hl) h.2)
/-- all but a name: borrowed as a value -/
theorem both {c : CE} {e : Expr} (h : OkE X Φ c e) (hn : ∀ i, c ≠ .var i) : OkE X Φ c e ∧ OkB X Φ c e := ⟨h, OkB.of h hn⟩
theorem stE_ok (G : Gd ke Φ r) (C : Ctx ke Φ sc X) (c : CE) (e : Expr) (h : stE ke r sc c e = true) : OkE X Φ c e ∧ OkB X Φ c e := by
  unfold stE at h
  split at h
  · rename_i e' h1
    obtain ⟨op, pos, rfl⟩ := one_some h1
    obtain ⟨x, y⟩ := G.E sc X C c e' h
    exact ⟨okE_one x, okB_one y⟩
  · cases c with
    | nev => exact both (fun ρ r ρ' hv => by rw [ev] at hv; cases hv) fun i e => by cases e
    | lrg1 a =>
      simp only at h
      split at h
      · simp only [Bool.and_eq_true] at h
        obtain ⟨⟨⟨h1, h2⟩, h3⟩, h4⟩ := h
        obtain ⟨e1, hg, hm⟩ := bu_ok C h1
        obtain ⟨e2, hg2, hm2⟩ := bu_ok C h2
        subst e1 e2
        exact both (okE_lrg1 C.calm hg hm hg2 hm2 h3 (G.E sc X C _ _ h4).1) fun i e => by cases e
      · cases h
    | lrg2 a b =>
      simp only at h
      split at h
      · simp only [Bool.and_eq_true] at h
        obtain ⟨⟨⟨⟨⟨h1, h2⟩, h3⟩, h4⟩, h5⟩, h6⟩ := h
        obtain ⟨e1, hg, hm⟩ := bu_ok C h1
        obtain ⟨e2, hg2, hm2⟩ := bu_ok C h2
        subst e1 e2
        exact both (okE_lrg2 C.calm hg hm hg2 hm2 h3 h4 (G.E sc X C _ _ h5).1 (G.E sc X C _ _ h6).1) fun i e => by cases e
      · cases h
    | var i =>
      simp only at h
      split at h
      · exact ⟨okE_var (C.var h), okB_var (C.var h)⟩
      · cases h
    | cst d =>
      simp only at h
      split at h
      · rename_i k j pos _
        refine both ?_ (fun i e => by cases e)
        unfold ckC at h
        split at h
        · exact okE_val pe_non (fun _ _ => .non) _ fun ρ => by rw [ev]
        · have := of_decide_eq_true h
          subst this
          exact okE_val pe_bl (fun _ _ => .bl _) _ fun ρ => by rw [ev]
        · have := of_decide_eq_true h
          subst this
          exact okE_val pe_int (fun _ _ => .int _) _ fun ρ => by rw [ev]
        · have := of_decide_eq_true h
          subst this
          exact okE_val pe_str (fun _ _ => .str _) _ fun ρ => by rw [ev]
        · cases h
      · cases h
    | glob g d =>
      simp only at h
      split at h
      · rename_i x pos _
        simp only [Bool.and_eq_true] at h
        obtain ⟨⟨h1, h2⟩, h3⟩ := h
        split at h3
        · rename_i d' hd
          have := pdEq_eq _ _ _ h3
          subst this
          obtain ⟨u, v, m, rv, dq⟩ := C.cst x _ hd
          exact both (okE_val (pe_glob (C.gl h1) m rv (dbg_of h2)) dq _ fun ρ => by rw [ev]) fun i e => by cases e
        · cases h3
      · cases h
    | bin o a b =>
      simp only at h
      split at h
      · simp only [Bool.and_eq_true] at h
        obtain ⟨⟨h1, h2⟩, h3⟩ := h
        rw [bop_eq h1]
        exact both (okE_bin (G.E sc X C _ _ h2).2 (G.E sc X C _ _ h3).2) fun i e => by cases e
      · cases h
    | neg a =>
      simp only at h
      split at h
      · exact both (okE_neg (G.E sc X C _ _ h).1) fun i e => by cases e
      · cases h
    | not a =>
      simp only at h
      split at h
      · exact both (okE_not (G.E sc X C _ _ h).2) fun i e => by cases e
      · cases h
    | cmp o a b =>
      simp only at h
      split at h
      · simp only [Bool.and_eq_true] at h
        obtain ⟨⟨⟨h1, h2⟩, h3⟩, h4⟩ := h
        rw [cop_eq h1]
        exact both (copE_marks C.units (mark_no h2) (G.E sc X C _ _ h3).2 (G.E sc X C _ _ h4).2) fun i e => by cases e
      · cases h
    | chain o o2 a b c =>
      simp only at h
      split at h
      · simp only [Bool.and_eq_true] at h
        obtain ⟨⟨⟨⟨⟨h1, h2⟩, h3⟩, h4⟩, h5⟩, h6⟩ := h
        rw [cop_eq h1, cop_eq h2]
        exact both (okE_chain C.units (mark_no h3) (G.E sc X C _ _ h4).2 (G.E sc X C _ _ h5).2 (G.E sc X C _ _ h6).2) fun i e => by cases e
      · cases h
    | and a b =>
      simp only at h
      split at h
      · rename_i p _
        simp only [Bool.and_eq_true] at h
        exact both (okE_and (pos' := p) (G.E sc X C _ _ h.1).1 (G.E sc X C _ _ h.2).1) fun i e => by cases e
      · cases h
    | or a b =>
      simp only at h
      split at h
      · rename_i p _
        simp only [Bool.and_eq_true] at h
        exact both (okE_or (pos' := p) (G.E sc X C _ _ h.1).1 (G.E sc X C _ _ h.2).1) fun i e => by cases e
      · cases h
    | ite c a b =>
      simp only at h
      split at h
      · simp only [Bool.and_eq_true] at h
        obtain ⟨⟨h1, h2⟩, h3⟩ := h
        exact both (okE_ite (G.T sc X C _ _ h1) (G.E sc X C _ _ h2).1 (G.E sc X C _ _ h3).1) fun i e => by cases e
      · cases h
    | tup cs =>
      simp only at h
      split at h
      · exact both (okE_tup (G.S C _ _ h).1) fun i e => by cases e
      · cases h
    | lst cs =>
      simp only at h
      split at h
      · exact both (okE_lst (G.S C _ _ h).1) fun i e => by cases e
      · cases h
    | call f io cs =>
      simp only at h
      split at h
      · rename_i x p es pos _
        simp only [Bool.and_eq_true] at h
        obtain ⟨⟨⟨h1, h2⟩, h3⟩, h4⟩ := h
        split at h3
        · rename_i f' io' hf
          simp only [Bool.and_eq_true] at h3
          obtain ⟨⟨e1, e2⟩, e3⟩ := h3
          have e1 := of_decide_eq_true e1
          have e2 := of_decide_eq_true e2
          have e3 := of_decide_eq_true e3
          subst e1 e2
          obtain ⟨k, fa, fd, ps, F, hr, hm, hk, hb⟩ := C.fns x _ _ hf
          obtain ⟨_, _, hn⟩ := G.S C _ _ h4
          refine both (okE_call F hr C.gd (C.gl h1) hm hk hb hn (fun z => ?_) (dbg_of h2) (G.A C _ _ _ e3 h4)) fun i e => by cases e
          subst z
          cases cs with
          | nil => rfl
          | cons _ _ => cases h4
        · cases h3
      · cases h
    | callK f io cs iok cks ord =>
      simp only at h
      split at h
      · rename_i x p e0 es kws pos _
        simp only [Bool.and_eq_true] at h
        obtain ⟨⟨⟨⟨⟨⟨⟨⟨h1, h2⟩, h3⟩, h4⟩, h5⟩, h6⟩, h7⟩, h8⟩, h9⟩ := h
        split at h3
        · rename_i f' shs hf
          simp only [Bool.and_eq_true] at h3
          obtain ⟨e1, e2⟩ := h3
          have e1 := of_decide_eq_true e1
          subst e1
          obtain ⟨sh, hsh, e2⟩ := List.any_eq_true.mp e2
          unfold ckShp at e2
          simp only [Bool.and_eq_true] at e2
          obtain ⟨⟨a1, a2⟩, a3⟩ := e2
          have a1 := of_decide_eq_true a1
          have a2 := of_decide_eq_true a2
          have a3 := ordEq_eq a3
          subst a3
          obtain ⟨k, fa, fd, ps, F, hr, hm, hk, hb⟩ := C.fnk x _ _ hf
          obtain ⟨g, hb⟩ := hb sh hsh
          obtain ⟨_, _, hn⟩ := G.S C _ _ h8
          exact both (okE_callK F hr C.gd (C.gl h1) hm hk hb hn a2 (dbg_of h2) (by rw [ckS_len h8, a1]; rfl) (by rw [ckKs_len h9, kwNs_len a2]) (of_decide_eq_true h6) h7 (G.A C _ _ _ (of_decide_eq_true h4) h8) (G.K C _ _ _ (of_decide_eq_true h5) h9)) fun i e => by cases e
        · cases h3
      · cases h
    | bi b cs =>
      simp only at h
      split at h
      · rw [Bool.and_eq_true] at h
        obtain ⟨e1, hg, hm⟩ := bu_ok C h.1
        subst e1
        obtain ⟨_, hB, hn⟩ := G.S C _ _ h.2
        exact both (okE_bi C.calm C.units C.gd C.nl hg hm hn hB) fun i e => by cases e
      · cases h
    | isi t c =>
      simp only at h
      split at h
      · simp only [Bool.and_eq_true] at h
        obtain ⟨⟨⟨h1, h2⟩, h3⟩, h4⟩ := h
        obtain ⟨e1, hg, hm⟩ := bu_ok C h1
        obtain ⟨e2, hg2, hm2⟩ := bu_ok C h2
        subst e1 e2
        exact both (okE_isi hg hm hg2 hm2 h3 (G.E sc X C _ _ h4).2) fun i e => by cases e
      · cases h
    | mu m i cs =>
      simp only at h
      split at h
      · rename_i es pos _
        simp only [Bool.and_eq_true] at h
        obtain ⟨⟨⟨⟨h1, h2⟩, h3⟩, h4⟩, h5⟩ := h
        have e1 := of_decide_eq_true h1
        subst e1
        obtain ⟨hS, _, hn⟩ := G.S C _ _ h5
        refine both (okE_mu (C.var h4) h2 hn (of_decide_eq_true h3) (fun z => ?_) hS) fun i e => by cases e
        subst z
        cases cs with
        | nil => rfl
        | cons _ _ => cases h5
      · cases h
    | mt m o cs =>
      simp only at h
      split at h
      · simp only [Bool.and_eq_true] at h
        obtain ⟨⟨⟨⟨h1, h2⟩, h3⟩, h4⟩, h5⟩ := h
        have e1 := of_decide_eq_true h1
        subst e1
        obtain ⟨_, hB, hn⟩ := G.S C _ _ h5
        rw [List.all_cons, Bool.and_eq_true] at hn
        exact both (okE_mt C.units (G.E sc X C _ _ h4).2 hB (base_no h3) h2 hn.1) fun i e => by cases e
      · cases h
    | ix a b =>
      simp only at h
      split at h
      · simp only [Bool.and_eq_true] at h
        obtain ⟨⟨h1, h2⟩, h3⟩ := h
        exact both (okE_ix h1 (G.E sc X C _ _ h2).2 (G.E sc X C _ _ h3).2) fun i e => by cases e
      · cases h
    | six i b =>
      simp only at h
      split at h
      · simp only [Bool.and_eq_true] at h
        obtain ⟨⟨h1, h2⟩, h3⟩ := h
        exact both (okE_six h1 (C.var h2) (G.E sc X C _ _ h3).1) fun i e => by cases e
      · cases h
    | slen i =>
      simp only at h
      split at h
      · rw [Bool.and_eq_true] at h
        obtain ⟨e1, hg, hm⟩ := bu_ok C h.1
        subst e1
        exact both (okE_slen hg hm rfl (C.var h.2)) fun i e => by cases e
      · cases h
    | sl a lo hi =>
      cases lo with
      | none =>
        cases hi with
        | none =>
          simp only at h
          split at h
          · exact both (okE_sl00 (G.E sc X C _ _ h).2) fun i e => by cases e
          · cases h
        | some hi =>
          simp only at h
          split at h
          · rw [Bool.and_eq_true] at h
            exact both (okE_sl01 (G.E sc X C _ _ h.1).2 (G.E sc X C _ _ h.2).1) fun i e => by cases e
          · cases h
      | some lo =>
        cases hi with
        | none =>
          simp only at h
          split at h
          · rw [Bool.and_eq_true] at h
            exact both (okE_sl10 (G.E sc X C _ _ h.1).2 (G.E sc X C _ _ h.2).1) fun i e => by cases e
          · cases h
        | some hi =>
          simp only at h
          split at h
          · simp only [Bool.and_eq_true] at h
            exact both (okE_sl11 (G.E sc X C _ _ h.1.1).2 (G.E sc X C _ _ h.1.2).1 (G.E sc X C _ _ h.2).1) fun i e => by cases e
          · cases h
    | rev a =>
      simp only at h
      split at h
      · exact both (okE_rev (G.E sc X C _ _ h).2) fun i e => by cases e
      · cases h
    | sset a =>
      simp only at h
      split at h
      · simp only [Bool.and_eq_true] at h
        obtain ⟨⟨⟨h1, h2⟩, h3⟩, h4⟩ := h
        obtain ⟨e1, hg, hm⟩ := bu_ok C h1
        obtain ⟨e2, hg2, hm2⟩ := bu_ok C h2
        subst e1 e2
        exact both (okE_sset C.calm hg hm hg2 hm2 h3 (G.E sc X C _ _ h4).2) fun i e => by cases e
      · cases h
    | cp k own t it ifs rr =>
      cases k with
      | list =>
        simp only at h
        split at h
        · obtain ⟨tg, iter, es, gs, celt, cls, eg, h1, h2, h3, h4, h5, h6, h7, h8, h9⟩ := c1_sound G C h
          subst eg
          exact both (okE_cpL C.calm C.nd h1 (own_snd own) h2 h3 h4 h5 h6 h7 h8 h9) fun i e => by cases e
        · cases h
      | sset =>
        simp only at h
        split at h
        · rw [Bool.and_eq_true] at h
          obtain ⟨e1, hg, hm⟩ := bu_ok C h.1
          subst e1
          obtain ⟨tg, iter, es, gs, celt, cls, eg, h1, h2, h3, h4, h5, h6, h7, h8, h9⟩ := c1_sound G C h.2
          subst eg
          exact both (okE_cpS C.calm C.nd hg hm h1 (own_snd own) h2 h3 h4 h5 h6 h7 h8 h9) fun i e => by cases e
        · cases h
      | sdict =>
        simp only at h
        split at h
        · rw [Bool.and_eq_true] at h
          obtain ⟨e1, hg, hm⟩ := bu_ok C h.1
          subst e1
          obtain ⟨tg, iter, es, gs, celt, cls, eg, h1, h2, h3, h4, h5, h6, h7, h8, h9⟩ := c1_sound G C h.2
          subst eg
          exact both (okE_cpD C.calm C.nd hg hm h1 (own_snd own) h2 h3 h4 h5 h6 h7 h8 h9) fun i e => by cases e
        · cases h
    | maxd a d =>
      simp only at h
      split at h
      · simp only [Bool.and_eq_true] at h
        obtain ⟨⟨⟨⟨h1, h2⟩, h3⟩, h4⟩, h5⟩ := h
        obtain ⟨e1, hg, hm⟩ := bu_ok C h1
        have e2 := of_decide_eq_true h2
        subst e1 e2
        exact both (okE_maxd C.calm hg hm h3 (G.E sc X C _ _ h4).2 (G.E sc X C _ _ h5).1) fun i e => by cases e
      · cases h
    | dsp ks cs =>
      simp only at h
      split at h
      · simp only [Bool.and_eq_true] at h
        obtain ⟨⟨h1, h2⟩, h3⟩ := h
        obtain ⟨ls, e1, e2⟩ := keys_sound (X := X) h1
        subst e1
        have hl := of_decide_eq_true h2
        exact both (okE_dsp e2 hl (vs_sound G C (hl.trans e2.some.2) h3)) fun i e => by cases e
      · cases h
    | dget a x d =>
      simp only at h
      split at h
      · simp only [Bool.and_eq_true] at h
        obtain ⟨⟨⟨⟨⟨⟨⟨h1, h2⟩, h3⟩, h4⟩, h5⟩, h6⟩, h7⟩, h8⟩ := h
        have e1 := of_decide_eq_true h1
        subst e1
        have hu := C.units
        exact both (okE_dget (by omega) (base_no h3) h2 h4 h5 (G.E sc X C _ _ h6).1 (G.E sc X C _ _ h7).1 (G.E sc X C _ _ h8).1) fun i e => by cases e
      · cases h
    | dix a x =>
      simp only at h
      split at h
      · simp only [Bool.and_eq_true] at h
        have hu := C.units
        exact both (okE_dix (by omega) h.1.1 (G.E sc X C _ _ h.1.2).1 (G.E sc X C _ _ h.2).1) fun i e => by cases e
      · cases h
    | dzip a b =>
      simp only at h
      split at h
      · simp only [Bool.and_eq_true] at h
        obtain ⟨⟨⟨⟨⟨h1, h2⟩, h3⟩, h4⟩, h5⟩, h6⟩ := h
        obtain ⟨e1, hg, hm⟩ := bu_ok C h1
        obtain ⟨e2, hg2, hm2⟩ := bu_ok C h2
        subst e1 e2
        exact both (okE_dzip C.calm hg hm hg2 hm2 h3 h4 (G.E sc X C _ _ h5).1 (G.E sc X C _ _ h6).1) fun i e => by cases e
      · cases h
    | gget g kvs x d => cases h
    | gix g kvs x => cases h
    | ch3 o o2 o3 a b c d =>
      simp only at h
      split at h
      · simp only [Bool.and_eq_true] at h
        obtain ⟨⟨⟨⟨⟨⟨⟨h1, h2⟩, h3⟩, h4⟩, h5⟩, h6⟩, h7⟩, h8⟩ := h
        rw [cop_eq h1, cop_eq h2, cop_eq h3]
        exact both (okE_ch3 C.units (mark_no h4) (G.E sc X C _ _ h5).2 (G.E sc X C _ _ h6).2 (G.E sc X C _ _ h7).2 (G.E sc X C _ _ h8).2) fun i e => by cases e
      · cases h
    | rpr t cs =>
      simp only at h
      split at h
      · simp only [Bool.and_eq_true] at h
        obtain ⟨⟨h1, h2⟩, h3⟩ := h
        obtain ⟨e1, hg, hm⟩ := bu_ok C h1
        subst e1
        obtain ⟨_, hB, _⟩ := G.S C _ _ h3
        have ht : t = false := by simpa using h2
        subst ht
        exact both (okE_rprL C.units C.gd C.nl hg hm hB) fun i e => by cases e
      · simp only [Bool.and_eq_true] at h
        obtain ⟨⟨h1, h2⟩, h3⟩ := h
        obtain ⟨e1, hg, hm⟩ := bu_ok C h1
        subst e1
        obtain ⟨_, hB, _⟩ := G.S C _ _ h3
        subst h2
        exact both (okE_rprT C.units C.gd C.nl hg hm hB) fun i e => by cases e
      · cases h
    | lc vs elt t it ifs => exact both (lc_sound G C h) fun i e => by cases e
    | lc2 vs vs1 elt t it ifs t1 it1 ifs1 => exact both (lc2_sound G C h) fun i e => by cases e
theorem stW_ok (G : Gd ke Φ r) (C : Ctx ke Φ sc X) (c : CE) (e : Expr) (h : stW r sc c e = true) : OkW X Φ c e := by
  unfold stW at h
  split at h
  · rename_i e' h1
    obtain ⟨op, pos, rfl⟩ := one_some h1
    have x := G.T sc X C c e' h
    cases op with
    | And => exact okW_and1 x
    | Or => exact okW_or1 x
  · cases c with
    | and a b =>
      simp only at h
      split at h
      · rw [Bool.and_eq_true] at h
        exact okW_and (G.T sc X C _ _ h.1) (G.W sc X C _ _ h.2)
      · cases h
    | or a b =>
      simp only at h
      split at h
      · rw [Bool.and_eq_true] at h
        exact okW_or (G.T sc X C _ _ h.1) (G.W sc X C _ _ h.2)
      · cases h
    | _ => cases h
theorem stT_ok (G : Gd ke Φ r) (C : Ctx ke Φ sc X) (c : CE) (e : Expr) (h : stT ke r sc c e = true) : OkT X Φ c e := by
  unfold stT at h
  split at h
  · exact (G.W sc X C _ _ h).t
  · split at h
    · exact okT_not (G.T sc X C _ _ h)
    · cases h
  · split at h
    · simp only [Bool.and_eq_true] at h
      obtain ⟨⟨⟨h1, h2⟩, h3⟩, h4⟩ := h
      rw [cop_eq h1]
      exact okT_cmp C.units (mark_no h2) (G.E sc X C _ _ h3).2 (G.E sc X C _ _ h4).2
    · cases h
  · split at h
    · simp only [Bool.and_eq_true] at h
      obtain ⟨⟨⟨⟨⟨h1, h2⟩, h3⟩, h4⟩, h5⟩, h6⟩ := h
      rw [cop_eq h1, cop_eq h2]
      exact okT_chain C.units (mark_no h3) (G.E sc X C _ _ h4).2 (G.E sc X C _ _ h5).2 (G.E sc X C _ _ h6).2
    · cases h
  · split at h
    · simp only [Bool.and_eq_true] at h
      obtain ⟨⟨⟨⟨⟨⟨⟨h1, h2⟩, h3⟩, h4⟩, h5⟩, h6⟩, h7⟩, h8⟩ := h
      rw [cop_eq h1, cop_eq h2, cop_eq h3]
      exact okT_ch3 C.units (mark_no h4) (G.E sc X C _ _ h5).2 (G.E sc X C _ _ h6).2 (G.E sc X C _ _ h7).2 (G.E sc X C _ _ h8).2
    · cases h
  · simp only [Bool.and_eq_true] at h
    refine okT_val (G.E sc X C _ _ h.2).2 (fun ρ => ?_) fun whole => ?_
    · have hp := h.1.2
      cases c <;> first | (cases hp; done) | (rw [evT] <;> intros <;> contradiction)
    · have hp := h.1.1
      cases e with
      | UnaryOp op x p => cases op <;> first | (cases hp; done) | rfl
      | _ => first | (cases hp; done) | rfl
theorem stI_ok (G : Gd ke Φ r) (C : Ctx ke Φ sc X) (it : CI) (tg e : Expr) (h : stI ke r sc it tg e = true) : OkI X Φ (prI it) it tg e := by
  unfold stI at h
  cases it with
  | val c => exact (okI_val (G.E sc X C _ _ h).1).src
  | rng1 c =>
    simp only at h
    split at h
    · simp only [Bool.and_eq_true] at h
      obtain ⟨e1, hg, hm⟩ := bu_ok C h.1.1
      subst e1
      exact (okI_rng1 hg hm h.1.2 (G.E sc X C _ _ h.2).1).src
    · cases h
  | rng2 c d =>
    simp only at h
    split at h
    · simp only [Bool.and_eq_true] at h
      obtain ⟨⟨⟨⟨h1, h2⟩, h3⟩, h4⟩, h5⟩ := h
      obtain ⟨e1, hg, hm⟩ := bu_ok C h1
      subst e1
      exact (okI_rng2 hg hm h2 h3 (G.E sc X C _ _ h4).1 (G.E sc X C _ _ h5).1).src
    · cases h
  | rng3 c d f =>
    simp only at h
    split at h
    · simp only [Bool.and_eq_true] at h
      obtain ⟨⟨⟨⟨⟨⟨h1, h2⟩, h3⟩, h4⟩, h5⟩, h6⟩, h7⟩ := h
      obtain ⟨e1, hg, hm⟩ := bu_ok C h1
      subst e1
      exact (okI_rng3 hg hm h2 h3 h4 (G.E sc X C _ _ h5).1 (G.E sc X C _ _ h6).1 (G.E sc X C _ _ h7).1).src
    · cases h
  | rev c =>
    simp only at h
    split at h
    · simp only [Bool.and_eq_true] at h
      obtain ⟨e1, hg, hm⟩ := bu_ok C h.1.1
      subst e1
      exact (okI_rev hg hm h.1.2 (G.E sc X C _ _ h.2).1).src
    · cases h
  | enum c =>
    simp only at h
    split at h
    · split at h
      · simp only [Bool.and_eq_true] at h
        obtain ⟨e1, hg, hm⟩ := bu_ok C h.1.1
        subst e1
        exact okI_enum hg hm h.1.2 (G.E sc X C _ _ h.2).1
      · cases h
    · cases h
  | zip c d =>
    simp only at h
    split at h
    · split at h
      · simp only [Bool.and_eq_true] at h
        obtain ⟨⟨⟨⟨h1, h2⟩, h3⟩, h4⟩, h5⟩ := h
        obtain ⟨e1, hg, hm⟩ := bu_ok C h1
        subst e1
        exact okI_zip hg hm h2 h3 (G.E sc X C _ _ h4).1 (G.E sc X C _ _ h5).1
      · cases h
    · cases h
theorem ckR_ok (ke : KE) (Φ : Phi) : ∀ n, Gd ke Φ (ckR ke n)
  | 0 => ⟨fun _ _ _ _ _ h => (by cases h), fun _ _ _ _ _ h => (by cases h), fun _ _ _ _ _ h => (by cases h), fun _ _ _ _ _ _ h => (by cases h)⟩
  | n + 1 => ⟨fun sc X C c e h => stE_ok (ckR_ok ke Φ n) C c e h, fun sc X C c e h => stT_ok (ckR_ok ke Φ n) C c e h, fun sc X C c e h => stW_ok (ckR_ok ke Φ n) C c e h, fun sc X C it tg e h => stI_ok (ckR_ok ke Φ n) C it tg e h⟩
end
end DI

/-! DI17: the checker of statements and defs; the levels. -/
namespace DI
open PySem L2
structure CtxS (ke : KE) (Φ : Phi) (sc : Scope) (X : Cx) : Prop where
  ctx : Ctx ke Φ sc X
  env : X.env.scope = sc
  kind : sc.kind = .function
  own : PassesOwn (model X.prog X.w) X.A X.env X.xe
  fnT : ∀ x, X.fn x = true
def isLc : Expr → Option (Scope × Pos)
  | .ListComp _ _ scope pos => some (scope, pos)
  | _ => none
def notComp : Expr → Bool
  | .ListComp _ _ _ _ => false
  | .SetComp _ _ _ _ => false
  | .DictComp _ _ _ _ _ => false
  | _ => true
def swB (sc : Scope) (t : Str) (pos : Pos) (scope : Scope) (p : Pos) : Bool := (sc.names.lookup t == some .local) && (pos.line == p.line) && !(scope.names.any fun (n, k) => n == t && (k == .local || k == .cell))
theorem sw_is {sc scope : Scope} {env : PySem.Env} {elt : Expr} {gs : List Comprehension} {pos p : Pos} {t : Str} {l : Nat} (he : env.scope = sc) (hk : sc.kind = .function) : swapsWith (.ListComp elt gs scope p) (some (.Name t pos)) l env = pure (swB sc t pos scope p) := by
  have hb : env.blockKind = .function := by
    unfold Env.blockKind
    rw [he, hk]
    rfl
  have hkk : env.kindOf t = sc.names.lookup t := by
    unfold Env.kindOf
    rw [he]
  unfold swapsWith swB
  simp only [hb, hkk, Expr.pos]
  rfl
theorem sw_no {e : Expr} {env : PySem.Env} {t : Option Expr} {l : Nat} (h : notComp e = true) : swapsWith e t l env = pure false := by
  cases e <;> first | (cases h; done) | rfl
def notName : Expr → Bool
  | .Name _ _ => false
  | _ => true
theorem sw_tg {e tg : Expr} {env : PySem.Env} {l : Nat} (h : notName tg = true) : swapsWithSole [tg] e l env = pure false := by
  show swapsWith e (some tg) l env = pure false
  by_cases hc : notComp e = true
  · exact sw_no hc
  · cases e <;> first | (exact (hc rfl).elim) | (cases tg <;> first | (cases h; done) | rfl)
def isTupE : Expr → Bool
  | .Tuple _ _ _ => true
  | _ => false
theorem ss_val {e tg : Expr} {env : PySem.Env} (h : isTupE e = false) : swappedStores [tg] e env = pure none := by
  unfold swappedStores
  cases e <;> first | (cases h; done) | (cases tg <;> rfl)
theorem ss_tg {e tg : Expr} {env : PySem.Env} (h : (match tg with | .Tuple _ _ _ => false | .List _ _ => false | _ => true) = true) : swappedStores [tg] e env = pure none := by
  unfold swappedStores
  cases tg <;> first | (cases h; done) | rfl
theorem ss_fold {es vs : List Expr} {k k2 : Nat} {p p2 : Pos} {env : PySem.Env} (h : vs.all (foldedForSure 8) = true) : swappedStores [.Tuple es k p] (.Tuple vs k2 p2) env = pure none := by
  unfold swappedStores
  simp only [h]
  split
  · rfl
  · split
    · rfl
    · split <;> rfl
def isStar : Expr → Bool
  | .Starred _ _ => true
  | _ => false
theorem nst {e : Expr} (h : notStar e = true) (h2 : isStar e = true) : False := by cases e <;> first | (cases h; done) | (cases h2; done)
theorem ss_par2 {env : PySem.Env} {sc : Scope} {x y : Str} {px py pt pt2 : Pos} {kt k2 : Nat} {a b : Expr} (he : env.scope = sc) (hk : sc.kind = .function) (hx : sc.names.lookup x = some .local) (hy : sc.names.lookup y = some .local) (hl : (py.line == px.line) = true) (hxy : (x == y) = false)
    (ha : notStar a = true) (hb : notStar b = true) (h1 : [a, b].all (foldedForSure 8) = false) (h2 : [a, b].all (constantsAlone 8) = false) :
    swappedStores [.Tuple [.Name x px, .Name y py] kt pt] (.Tuple [a, b] k2 pt2) env = pure (some [x, y]) := by
  have hbk : env.blockKind = .function := by
    unfold Env.blockKind
    rw [he, hk]
    rfl
  have kx : env.kindOf x = some .local := by
    unfold Env.kindOf
    rw [he, hx]
  have ky : env.kindOf y = some .local := by
    unfold Env.kindOf
    rw [he, hy]
  have hs : ([a, b].any fun e => match e with | .Starred _ _ => true | _ => false) = false := by
    cases a <;> first | (cases ha; done) | (cases b <;> first | (cases hb; done) | rfl)
  have hyx : (y == x) = false := by
    rw [BEq.comm]
    exact hxy
  unfold swappedStores
  simp only [hbk, hs, kx, ky, h1, h2, hl, Expr.pos, List.head?_cons, Option.map_some, Option.getD_some, List.filterMap_cons, List.filterMap_nil, BEq.rfl, Bool.true_and, Bool.and_true, if_true, List.length_cons, List.length_nil]
  simp [List.eraseDups_cons, hyx]
  intro h
  rcases h with h | h
  · exact (nst ha h).elim
  · exact (nst hb h).elim
theorem ss_par3 {env : PySem.Env} {sc : Scope} {x y z : Str} {px py pz pt pt2 : Pos} {kt k2 : Nat} {a b c : Expr} (he : env.scope = sc) (hk : sc.kind = .function) (hx : sc.names.lookup x = some .local) (hy : sc.names.lookup y = some .local) (hz : sc.names.lookup z = some .local)
    (hl : (py.line == px.line) = true) (hl2 : (pz.line == px.line) = true) (hxy : (y == x) = false) (hxz : (z == x) = false) (hyz : (z == y) = false)
    (ha : notStar a = true) (hb : notStar b = true) (hc : notStar c = true) (h1 : [a, b, c].all (foldedForSure 8) = false) (h2 : [a, b, c].all (constantsAlone 8) = false) :
    swappedStores [.Tuple [.Name x px, .Name y py, .Name z pz] kt pt] (.Tuple [a, b, c] k2 pt2) env = pure (some [x, y, z]) := by
  have hbk : env.blockKind = .function := by
    unfold Env.blockKind
    rw [he, hk]
    rfl
  have kx : env.kindOf x = some .local := by
    unfold Env.kindOf
    rw [he, hx]
  have ky : env.kindOf y = some .local := by
    unfold Env.kindOf
    rw [he, hy]
  have kz : env.kindOf z = some .local := by
    unfold Env.kindOf
    rw [he, hz]
  have hs : ([a, b, c].any fun e => match e with | .Starred _ _ => true | _ => false) = false := by
    have f : ∀ e : Expr, notStar e = true → (match e with | .Starred _ _ => true | _ => false) = false := fun e h => by cases e <;> first | (cases h; done) | rfl
    rw [List.any_cons, List.any_cons, List.any_cons, List.any_nil, f a ha, f b hb, f c hc]
    rfl
  unfold swappedStores
  simp only [hbk, hs, kx, ky, kz, h1, h2, hl, hl2, Expr.pos, List.head?_cons, Option.map_some, Option.getD_some, List.filterMap_cons, List.filterMap_nil, BEq.rfl, Bool.true_and, Bool.and_true, if_true, List.length_cons, List.length_nil]
  simp [List.eraseDups_cons, hxy, hxz, hyz]
  intro h
  rcases h with h | h | h
  · exact (nst ha h).elim
  · exact (nst hb h).elim
  · exact (nst hc h).elim
/-! ### the checker -/
def ckN (ke : KE) (sc : Scope) (i : Nat) (x : Str) : Bool := decide (ke.N[i]? = some x) && decide (sc.names.lookup x = some .local)
def ckSs (f : CS → Stmt → Bool) : List Stmt → CSs → Bool
  | [], .nil => true
  | s :: ss, .cons c cs => f c s && ckSs f ss cs
  | _, _ => false
def ckSetLc (ke : KE) (r : Rc) (sc : Scope) (e : Expr) : CE → Bool
  | .lc vs elt t it ifs => ckLc ke r sc vs elt t it ifs e
  | .lc2 vs vs1 elt t it ifs t1 it1 ifs1 => ckLc2 ke r sc vs vs1 elt t it ifs t1 it1 ifs1 e
  | _ => false
def ckSet (ke : KE) (r : Rc) (sc : Scope) (c : CE) (x : Str) (p : Pos) (e : Expr) : Bool := match isLc e with
  | some (scope, pos) => if swB sc x p scope pos then decide (sc.names.lookup x = some .local) && ckSetLc ke r sc e c else r.E sc c e
  | none => notComp e && r.E sc c e
def ckR2 (r : Rc) (sc : Scope) : List Expr → CEs → Bool
  | [], .nil => true
  | e :: es, .cons c cs => notStar e && r.E sc c e && ckR2 r sc es cs
  | _, _ => false
def stS (ke : KE) (r : Rc) (f : CS → Stmt → Bool) (sc : Scope) (c : CS) (st : Stmt) : Bool := match c with
  | .nev => true
  | .set i c => (match st with
    | .Assign [.Name x p] e _ => decide (ke.N[i]? = some x) && locB sc x && ckSet ke r sc c x p e
    | _ => false)
  | .asg t c => (match st with
    | .Assign [.Tuple es k p] e _ => (match e with
      | .Tuple vs _ _ => vs.all (foldedForSure 8)
      | _ => true) && r.E sc c e && ckG ke sc 20 false t (.Tuple es k p)
    | _ => false)
  | .par is cs => (match st with
    | .Assign [.Tuple [.Name x px, .Name y py] _ _] (.Tuple [a, b] _ _) _ => (match is with
      | [i, j] => ckN ke sc i x && ckN ke sc j y && (py.line == px.line) && !(x == y) && !([a, b].all (foldedForSure 8)) && !([a, b].all (constantsAlone 8)) && ckR2 r sc [a, b] cs
      | _ => false)
    | .Assign [.Tuple [.Name x px, .Name y py, .Name z pz] _ _] (.Tuple [a, b, c] _ _) _ => (match is with
      | [i, j, l] => ckN ke sc i x && ckN ke sc j y && ckN ke sc l z && (py.line == px.line) && (pz.line == px.line) && !(y == x) && !(z == x) && !(z == y) && !([a, b, c].all (foldedForSure 8)) && !([a, b, c].all (constantsAlone 8)) && ckR2 r sc [a, b, c] cs
      | _ => false)
    | _ => false)
  | .setix i b c => (match st with
    | .Assign [.Subscript (.Name x _) eb _] e _ => notSlice eb && ckV ke sc i x && r.E sc b eb && r.E sc c e
    | _ => false)
  | .aug i o c => (match st with
    | .AugAssign (.Name x _) op e _ => bopOk o op && decide (ke.N[i]? = some x) && locB sc x && r.E sc c e
    | _ => false)
  | .ret c => (match st with
    | .Return (some e) _ => r.E sc c e
    | _ => false)
  | .retv i => (match st with
    | .Return (some (.Name x _)) _ => ckV ke sc i x
    | _ => false)
  | .retn => (match st with
    | .Return none _ => true
    | _ => false)
  | .exp c => (match st with
    | .Expr e _ => notComp e && r.E sc c e
    | _ => false)
  | .ifS c a b => (match st with
    | .If e sa sb _ => r.T sc c e && ckSs f sa a && ckSs f sb b
    | _ => false)
  | .forS t it a => (match st with
    | .For tg iter sa [] _ => notSet iter && r.I sc it tg iter && ckG ke sc 20 (prI it) t tg && ckSs f sa a
    | _ => false)
  | .whileS c a => (match st with
    | .While e sa [] _ => r.T sc c e && ckSs f sa a
    | _ => false)
  | .pass => (match st with
    | .Pass _ => true
    | .Expr (.Constant (.str _) _ _) _ => true
    | _ => false)
  | .brk => (match st with
    | .Break _ => true
    | _ => false)
  | .cont => (match st with
    | .Continue _ => true
    | _ => false)
def ckSt (ke : KE) (r : Rc) (sc : Scope) : Nat → CS → Stmt → Bool
  | 0, _, _ => false
  | n + 1, c, st => stS ke r (ckSt ke r sc n) sc c st
section
variable {ke : KE} {Φ : Phi} {sc scope : Scope} {X : Cx} {r : Rc} {wf : Nat} {io : List Nat}
theorem okS_setLc2 {i : Nat} {x : Str} {own : List (Str × Nat)} {vs vs1 : List Nat} {celt : CE} {t t1 : CT} {it it1 : CI} {cifs cifs1 : CEs} {elt tg iter tg1 iter1 : Expr} {ifs ifs1 : List Expr} {pos pos' spos : Pos} {pr pr1 : Bool} (hN : X.N.Nodup) (hi : X.N[i]? = some x) (hyl : X.env.scope.names.lookup x = some .local)
    (hsw : swapsWith (.ListComp elt [⟨tg, iter, ifs, 0⟩, ⟨tg1, iter1, ifs1, 0⟩] scope pos) (some (.Name x pos')) spos.line X.env = pure true)
    (hc : X.calm = true) (ok : BlkOk X.N X.env.scope scope own) (hvs : own.map (·.2) = vs) (hset : notSet iter = true) (hset1 : notSet iter1 = true)
    (hI : OkI X Φ pr it tg iter) (hg : InB X scope fun Y => OkG Y pr [] t tg) (ht : InB X scope fun Y => OkTs Y Φ cifs ifs) (hI1 : InB X scope fun Y => OkI Y Φ pr1 it1 tg1 iter1) (hg1 : InB X scope fun Y => OkG Y pr1 [] t1 tg1) (ht1 : InB X scope fun Y => OkTs Y Φ cifs1 ifs1)
    (he : InB X scope fun Y => OkE Y Φ celt elt) (hs : ∀ i ∈ t.sl, i ∈ vs) (hs1 : ∀ i ∈ t1.sl, i ∈ vs1) (hv1 : ∀ i ∈ vs1, i ∈ vs) :
    OkSt X Φ wf io (.set i (.lc2 vs vs1 celt t it cifs t1 it1 cifs1)) (.Assign [.Name x pos'] (.ListComp elt [⟨tg, iter, ifs, 0⟩, ⟨tg1, iter1, ifs1, 0⟩] scope pos) spos) := by
  intro ρ fl ρ' hv σ H O rp D q
  subst hvs
  rw [ex] at hv
  obtain ⟨⟨r, ρ1⟩, h1, hv⟩ := Option.bind_eq_some_iff.mp hv
  obtain ⟨ρ2, h2, e2⟩ := Option.map_eq_some_iff.mp hv
  cases e2
  refine of_ps (ps_setLc2 (own := own) (vs1 := vs1) (wi := twi X tg iter) (g := bwg X scope tg) (tt := bwts X scope ifs) (wi1 := bwi X scope tg1 iter1) (g1 := bwg X scope tg1) (tt1 := bwts X scope ifs1) (te := bwp X scope elt) hc hN hi hyl hsw pi_wp ok hv1
    (fun s H0 C cl fp => ?_) (fun s H0 C cl fp => ?_) (fun s H0 C cl fp => ?_) (fun s H0 C cl fp => ?_) (fun s H0 C cl fp => ?_) (fun s H0 C cl fp => ?_) (fun x => notSet_id hset) (fun _ x => notSet_id hset1))
    (lc2_ok hI hg ht hI1 hg1 ht1 he hs hs1 hv1 h1 rp fun v H1 O1 n hr => set_end rp n hr h2 q)
  · exact ⟨fun pins s1 σ1 H1 v u Q1 I r h => h s H0 C cl fp pins s1 u I r⟩
  · exact ⟨fun pins s1 σ1 H1 Q1 I h => h s H0 C cl fp pins s1 I⟩
  · exact ⟨fun pins s1 σ1 H1 Q1 I h => h s H0 C cl fp pins s1 I⟩
  · exact ⟨fun pins s1 σ1 H1 v u Q1 I r h => h s H0 C cl fp pins s1 u I r⟩
  · exact ⟨fun pins s1 σ1 H1 Q1 I h => h s H0 C cl fp pins s1 I⟩
  · exact ⟨fun pins s1 σ1 H1 Q1 I h => h s H0 C cl fp pins s1 I⟩
theorem R2_ok (G : Gd ke Φ r) (C : Ctx ke Φ sc X) : ∀ (es : List Expr) (cs : CEs), ckR2 r sc es cs = true → OkR X Φ cs es ∧ es.all notStar = true
  | [], .nil, _ => ⟨okR_nil, rfl⟩
  | e :: es, .cons c cs, h => by
    unfold ckR2 at h
    simp only [Bool.and_eq_true] at h
    obtain ⟨a, d⟩ := R2_ok G C es cs h.2
    exact ⟨okR_cons h.1.1 (G.E sc X C c e h.1.2).1 a, by rw [List.all_cons, h.1.1, d]; rfl⟩
  | [], .cons _ _, h => by cases h
  | _ :: _, .nil, h => by cases h
theorem ss_ok {f : CS → Stmt → Bool} (hf : ∀ c st, f c st = true → OkSt X Φ wf io c st) : ∀ (ss : List Stmt) (cs : CSs), ckSs f ss cs = true → OkSs X Φ wf io cs ss
  | [], .nil, _ => okSs_nil
  | s :: ss, .cons c cs, h => by
    unfold ckSs at h
    rw [Bool.and_eq_true] at h
    exact okSs_cons (hf c s h.1) (ss_ok hf ss cs h.2)
  | [], .cons _ _, h => by cases h
  | _ :: _, .nil, h => by cases h
theorem isLc_some {e : Expr} {scope : Scope} {pos : Pos} (h : isLc e = some (scope, pos)) : ∃ elt gs, e = .ListComp elt gs scope pos := by
  unfold isLc at h
  split at h
  · cases h; exact ⟨_, _, rfl⟩
  · cases h
theorem ckSet_ok (G : Gd ke Φ r) (C : CtxS ke Φ sc X) {c : CE} {i : Nat} {x : Str} {p pos : Pos} {e : Expr} (hi : ke.N[i]? = some x) (hl : locB sc x = true) (h : ckSet ke r sc c x p e = true) : OkSt X Φ wf io (.set i c) (.Assign [.Name x p] e pos) := by
  have hi' : X.N[i]? = some x := by rw [C.ctx.N]; exact hi
  obtain ⟨hx, hf⟩ := C.ctx.loc hl
  unfold ckSet at h
  split at h
  · rename_i scope spos hlc
    obtain ⟨elt, gs, rfl⟩ := isLc_some hlc
    split at h
    · rename_i hsw
      rw [Bool.and_eq_true] at h
      obtain ⟨hloc, h⟩ := h
      have hloc : X.env.scope.names.lookup x = some .local := by rw [C.env]; exact of_decide_eq_true hloc
      have hsw' : swapsWith (.ListComp elt gs scope spos) (some (.Name x p)) pos.line X.env = pure true := by rw [sw_is C.env C.kind, hsw]
      cases c with
      | lc vs elt' t it ifs =>
        have h : ckLc ke r sc vs elt' t it ifs (.ListComp elt gs scope spos) = true := h
        unfold ckLc at h
        split at h
        · rename_i heq
          cases heq
          simp only [Bool.and_eq_true] at h
          obtain ⟨⟨⟨⟨⟨⟨⟨h1, h2⟩, h3⟩, h4⟩, h5⟩, h6⟩, h7⟩, h8⟩ := h
          have ea := of_decide_eq_true h1
          subst ea
          exact okS_setLc C.ctx.nd hi' hloc hsw' C.ctx.calm (C.ctx.blkOk h2) (own_snd vs) h3 (G.I sc X C.ctx _ _ _ h4) (fun s H0 Cc cl fp => ckG_ok (C.ctx.blk s H0 Cc cl fp) [] _ _ _ _ h5) (fun s H0 Cc cl fp => G.Ts (C.ctx.blk s H0 Cc cl fp) _ _ h6)
            (fun s H0 Cc cl fp => (G.E _ _ (C.ctx.blk s H0 Cc cl fp) _ _ h7).1) (sub_ok h8) rfl
        · cases h
      | lc2 vs vs1 elt' t it ifs t1 it1 ifs1 =>
        have h : ckLc2 ke r sc vs vs1 elt' t it ifs t1 it1 ifs1 (.ListComp elt gs scope spos) = true := h
        unfold ckLc2 at h
        split at h
        · rename_i heq
          cases heq
          simp only [Bool.and_eq_true] at h
          obtain ⟨⟨⟨⟨⟨⟨⟨⟨⟨⟨⟨⟨⟨⟨h1, h2⟩, h3⟩, h4⟩, h5⟩, h6⟩, h7⟩, h8⟩, h9⟩, h10⟩, h11⟩, h12⟩, h13⟩, h14⟩, h15⟩ := h
          have ea := of_decide_eq_true h1
          have eb := of_decide_eq_true h2
          subst ea eb
          exact okS_setLc2 C.ctx.nd hi' hloc hsw' C.ctx.calm (C.ctx.blkOk h3) (own_snd vs) h4 h5 (G.I sc X C.ctx _ _ _ h6) (fun s H0 Cc cl fp => ckG_ok (C.ctx.blk s H0 Cc cl fp) [] _ _ _ _ h7) (fun s H0 Cc cl fp => G.Ts (C.ctx.blk s H0 Cc cl fp) _ _ h8)
            (fun s H0 Cc cl fp => G.I _ _ (C.ctx.blk s H0 Cc cl fp) _ _ _ h9) (fun s H0 Cc cl fp => ckG_ok (C.ctx.blk s H0 Cc cl fp) [] _ _ _ _ h10) (fun s H0 Cc cl fp => G.Ts (C.ctx.blk s H0 Cc cl fp) _ _ h11)
            (fun s H0 Cc cl fp => (G.E _ _ (C.ctx.blk s H0 Cc cl fp) _ _ h12).1) (sub_ok h13) (sub_ok h14) (sub_ok h15)
        · cases h
      | _ => cases h
    · rename_i hsw
      refine okS_set C.ctx.nd hi' hx hf ?_ (G.E sc X C.ctx _ _ h).1
      rw [sw_is C.env C.kind]
      simp only [Bool.not_eq_true] at hsw
      rw [hsw]
  · rw [Bool.and_eq_true] at h
    exact okS_set C.ctx.nd hi' hx hf (sw_no h.1) (G.E sc X C.ctx _ _ h.2).1
theorem ckN_ok (C : CtxS ke Φ sc X) {i : Nat} {x : Str} (h : ckN ke sc i x = true) : X.N[i]? = some x ∧ sc.names.lookup x = some .local ∧ X.env.scope.names.lookup x = some .local := by
  unfold ckN at h
  rw [Bool.and_eq_true] at h
  refine ⟨by rw [C.ctx.N]; exact of_decide_eq_true h.1, of_decide_eq_true h.2, by rw [C.env]; exact of_decide_eq_true h.2⟩
theorem not_of {b : Bool} (h : (!b) = true) : b = false := by cases b <;> first | rfl | cases h
theorem stS_ok (G : Gd ke Φ r) (C : CtxS ke Φ sc X) {f : CS → Stmt → Bool} (hf : ∀ c st, f c st = true → OkSt X Φ wf io c st) (c : CS) (st : Stmt) (h : stS ke r f sc c st = true) : OkSt X Φ wf io c st := by
  unfold stS at h
  cases c with
  | nev => exact fun ρ fl ρ' hv => by rw [ex] at hv; cases hv
  | set i c =>
    simp only at h
    split at h
    · simp only [Bool.and_eq_true] at h
      exact ckSet_ok G C (of_decide_eq_true h.1.1) h.1.2 h.2
    · cases h
  | asg t c =>
    simp only at h
    split at h
    · rename_i es k p e pos
      simp only [Bool.and_eq_true] at h
      obtain ⟨⟨h1, h2⟩, h3⟩ := h
      refine okS_asg (sw_tg rfl) ?_ rfl (G.E sc X C.ctx _ _ h2).1 (ckG_ok C.ctx io _ _ _ _ h3).data
      cases e with
      | Tuple vs k2 p2 => exact ss_fold h1
      | _ => exact ss_val rfl
    · cases h
  | par is cs =>
    simp only at h
    split at h
    · split at h
      · simp only [Bool.and_eq_true] at h
        obtain ⟨⟨⟨⟨⟨⟨h1, h2⟩, h3⟩, h4⟩, h5⟩, h6⟩, h7⟩ := h
        obtain ⟨a1, a2, a3⟩ := ckN_ok C h1
        obtain ⟨b1, b2, b3⟩ := ckN_ok C h2
        obtain ⟨hR, hn⟩ := R2_ok G C.ctx _ _ h7
        rw [List.all_cons, List.all_cons, Bool.and_eq_true, Bool.and_eq_true] at hn
        exact okS_par2 C.ctx.calm C.ctx.nd a1 b1 a3 b3 (ss_par2 C.env C.kind a2 b2 h3 (not_of h4) hn.1 hn.2.1 (not_of h5) (not_of h6)) hR
      · cases h
    · split at h
      · simp only [Bool.and_eq_true] at h
        obtain ⟨⟨⟨⟨⟨⟨⟨⟨⟨⟨h1, h2⟩, h3⟩, h4⟩, h5⟩, h6⟩, h7⟩, h8⟩, h9⟩, h10⟩, h11⟩ := h
        obtain ⟨a1, a2, a3⟩ := ckN_ok C h1
        obtain ⟨b1, b2, b3⟩ := ckN_ok C h2
        obtain ⟨c1, c2, c3⟩ := ckN_ok C h3
        obtain ⟨hR, hn⟩ := R2_ok G C.ctx _ _ h11
        simp only [List.all_cons, Bool.and_eq_true] at hn
        exact okS_par3 C.ctx.calm C.ctx.nd a1 b1 c1 a3 b3 c3 (ss_par3 C.env C.kind a2 b2 c2 h4 h5 (not_of h6) (not_of h7) (not_of h8) hn.1 hn.2.1 hn.2.2.1 (not_of h9) (not_of h10)) hR
      · cases h
    · cases h
  | setix i b c =>
    simp only at h
    split at h
    · rename_i x px eb tpos e pos
      simp only [Bool.and_eq_true] at h
      obtain ⟨⟨⟨h1, h2⟩, h3⟩, h4⟩ := h
      refine okS_setix (sw_tg rfl) (ss_tg rfl) (fun v => ?_) (C.ctx.var h2) (G.E sc X C.ctx _ _ h4).1 (G.E sc X C.ctx _ _ h3).1
      cases eb <;> first | (cases h1; done) | rfl
    · cases h
  | aug i o c =>
    simp only at h
    split at h
    · simp only [Bool.and_eq_true] at h
      obtain ⟨⟨⟨h1, h2⟩, h3⟩, h4⟩ := h
      obtain ⟨hx, hff⟩ := C.ctx.loc h3
      rw [bop_eq h1]
      exact okS_aug C.ctx.nd (by rw [C.ctx.N]; exact of_decide_eq_true h2) hx hff (G.E sc X C.ctx _ _ h4).1
    · cases h
  | ret c =>
    simp only at h
    split at h
    · exact okS_ret (G.E sc X C.ctx _ _ h).1
    · cases h
  | retv i =>
    simp only at h
    split at h
    · exact okS_retv (C.ctx.var h)
    · cases h
  | retn =>
    simp only at h
    split at h
    · exact okS_retn
    · cases h
  | exp c =>
    simp only at h
    split at h
    · rw [Bool.and_eq_true] at h
      exact okS_exp (sw_no h.1) (G.E sc X C.ctx _ _ h.2).1
    · cases h
  | ifS c a b =>
    simp only at h
    split at h
    · simp only [Bool.and_eq_true] at h
      exact okS_if (G.T sc X C.ctx _ _ h.1.1) (ss_ok hf _ _ h.1.2) (ss_ok hf _ _ h.2)
    · cases h
  | forS t it a =>
    simp only at h
    split at h
    · simp only [Bool.and_eq_true] at h
      obtain ⟨⟨⟨h1, h2⟩, h3⟩, h4⟩ := h
      exact okS_for C.own C.ctx.calm h1 (G.I sc X C.ctx _ _ _ h2) (ckG_ok C.ctx io _ _ _ _ h3) (ss_ok hf _ _ h4)
    · cases h
  | whileS c a =>
    simp only at h
    split at h
    · rw [Bool.and_eq_true] at h
      exact okS_while C.own (G.T sc X C.ctx _ _ h.1) (ss_ok hf _ _ h.2)
    · cases h
  | pass =>
    simp only at h
    split at h
    · exact okS_pass
    · exact okS_doc
    · cases h
  | brk =>
    simp only at h
    split at h
    · exact okS_brk
    · cases h
  | cont =>
    simp only at h
    split at h
    · exact okS_cont
    · cases h
theorem ckSt_ok (G : Gd ke Φ r) (C : CtxS ke Φ sc X) : ∀ (n : Nat) (c : CS) (st : Stmt), ckSt ke r sc n c st = true → OkSt X Φ wf io c st
  | 0, _, _, h => by cases h
  | n + 1, c, st, h => stS_ok G C (fun c st => ckSt_ok G C n c st) c st h
end
/-! ### defs and levels -/
/-- a def of the law: its name, its slots and parameters, its text, its core -/
structure Ent where
  id : Nat
  x : Str
  N : List Str
  ps : List Str
  st : Stmt
  fd : FD
  pl : Bool := true
  shs : List Shp := []
def fnScB (N P : List Str) (sc : Scope) : Bool := decide (sc.kind = .function) && !sc.isCoroutine && !sc.isGenerator && decide N.Nodup && decide (N.take P.length = P) && (P.all fun x => locB sc x) && sc.names.all fun y => !(y.2 == .free)
theorem fnSc_ok {N P : List Str} {sc : Scope} (h : fnScB N P sc = true) : FnScope N P sc := by
  unfold fnScB at h
  simp only [Bool.and_eq_true] at h
  obtain ⟨⟨⟨⟨⟨⟨h1, h2⟩, h3⟩, h4⟩, h5⟩, h6⟩, h7⟩ := h
  refine ⟨of_decide_eq_true h1, not_of h2, not_of h3, of_decide_eq_true h4, of_decide_eq_true h5, fun x hx => ?_, fun y hy hz => ?_⟩
  · have := (List.all_eq_true.mp h6) x hx
    unfold locB at this
    split at this
    · rename_i e; exact .inl e
    · rename_i e; exact .inr e
    · cases this
  · have := (List.all_eq_true.mp h7) y hy
    rw [hz] at this
    cases this
structure Lw where
  tab : List Ent
  ft : List (Str × Nat × List Bool)
  ct : List (Str × PyData)
  bu : List Str
  kt : List (Str × Nat) := []
def Lw.kts (L : Lw) : List (Str × Nat × List Shp) := L.kt.map fun p => (p.1, p.2, ((L.tab.find? fun e => decide (e.x = p.1)).map Ent.shs).getD [])
def Lw.ke (L : Lw) (e : Ent) : KE := ⟨e.N, L.ft, L.ct, L.bu, L.kts⟩
def Lw.T (L : Lw) : Tab := fun i => (L.tab.map fun e => (e.id, e.fd)).lookup i
def ckEnt (L : Lw) (e : Ent) : Bool := fnScB e.N e.ps (defScope e.st) && decide (e.fd.np = e.ps.length) && decide (e.fd.n = e.N.length) && ckSs (ckSt (L.ke e) (ckR (L.ke e) 40) (defScope e.st) 20) (defBody e.st) e.fd.body
def ckFt (L : Lw) : Bool := (L.ft.all fun p => L.tab.any fun e => decide (e.x = p.1) && e.pl && decide (e.id = p.2.1)) && L.kt.all fun p => match L.tab.find? (fun e => decide (e.x = p.1)) with
  | some e => decide (e.id = p.2)
  | none => false
/-- a def as it stands behind the top -/
def DefOk (K : PySem.W.Frag) (mg : Str → Option Value) (e : Ent) : Prop := ∃ (qual : Str) (f : Addr) (fd : FuncData), Fun K e.x qual e.st f fd ∧ mg e.x = some (.ref f) ∧ (e.pl = true → Binds K fd e.ps []) ∧ ∀ sh ∈ e.shs, ∃ g, KBn K fd e.ps sh.n sh.ks g (fun vs zs => pickV sh.ord (vs ++ zs))
def CstOk (K : PySem.W.Frag) (mg : Str → Option Value) (x : Str) (d : PyData) : Prop := ∃ u v, mg x = some u ∧ RelV v u ∧ ∀ H O, Dq K H O d v
theorem lookup_mem {α : Type} : ∀ {l : List (Str × α)} {x : Str} {a : α}, l.lookup x = some a → (x, a) ∈ l
  | [], _, _, h => by simp at h
  | (y, b) :: r, x, a, h => by
    rw [List.lookup_cons] at h
    cases e : x == y with
    | true =>
      rw [e] at h
      cases h
      rw [eq_of_beq e]
      exact List.mem_cons_self
    | false =>
      rw [e] at h
      exact List.mem_cons_of_mem _ (lookup_mem h)
section
variable {P : Program} {w : World} {K : PySem.W.Frag} {mg : Str → Option Value} {base : Heap} {L : Lw} {wf : Nat}
/-- every def keeps its promise, at every level -/
theorem levels (hft : ckFt L = true) (hT : ∀ e ∈ L.tab, L.T e.id = some e.fd) (hck : L.tab.all (ckEnt L) = true) (hD : ∀ e ∈ L.tab, DefOk K mg e) (hB : ∀ x ∈ L.bu, mg x = none) (hC : ∀ p ∈ L.ct, CstOk K mg p.1 p.2) (hN : PySem.W.nsIn K cStatics digitsName = some none) : ∀ (n : Nat) (e : Ent), e ∈ L.tab → ∀ (qual : Str) (f : Addr) (fd : FuncData), Fun K e.x qual e.st f fd →
    FnG P w K mg base n f fd e.ps (spG K (Run L.T wf n e.id))
  | 0, e, he, qual, f, fd, F => ⟨fun vs H Q ⟨_, _, _, _, h, _⟩ => (by cases h), fun A outer s H args us vs Q _ _ _ _ _ ⟨_, _, _, _, h, _⟩ => (by cases h)⟩
  | n + 1, e, hm, qual, f, fd, F => by
    obtain ⟨oc, od, kV, doc, pm, an, cdv, ct, osl, rfl, lk, hcd⟩ := F.ex
    have hc := (List.all_eq_true.mp hck) e hm
    unfold ckEnt at hc
    simp only [Bool.and_eq_true] at hc
    obtain ⟨⟨⟨c1, c2⟩, c3⟩, c4⟩ := hc
    have S := fnSc_ok c1
    have eR : Run L.T wf (n + 1) e.id = runF (Run L.T wf n) wf e.fd := by
      funext args
      show ((L.T e.id).bind fun fd => runF (Run L.T wf n) wf fd args) = _
      rw [hT e hm]
      rfl
    rw [eR]
    have hft0 := hft
    unfold ckFt at hft
    rw [Bool.and_eq_true] at hft
    refine fnG_of lk hcd S (of_decide_eq_true c2) (of_decide_eq_true c3) fun A outer s H hr hgd => ?_
    have C : Ctx (L.ke e) (Run L.T wf n) (defScope e.st) (cxOf noX P w K mg base e.N qual (defScope e.st) f cdv A outer s H noE) := by
      refine ⟨rfl, S.nd, rfl, ?_, hgd, hN, fun x k _ h => h, fun x h => .inl h, fun x _ => rfl, hB, fun x m io hx => ?_, fun x m shs hx => ?_, fun x d hx => ?_⟩
      · have := hr.un
        show (A.deeper (PyProof.Rows.envOfC qual (defScope e.st) s.heap.objs.size f cdv)).units + 65 < cLine
        omega
      · have h1 := lookup_mem hx
        obtain ⟨e', he', h2⟩ := List.any_eq_true.mp ((List.all_eq_true.mp hft.1) _ h1)
        simp only [Bool.and_eq_true] at h2
        have hx' := of_decide_eq_true h2.1.1
        have hi := of_decide_eq_true h2.2
        obtain ⟨q', f', fd', F', hmg, hb, _⟩ := hD e' he'
        exact ⟨n, f', fd', e'.ps, by rw [← hi]; exact levels hft0 hT hck hD hB hC hN n e' he' q' f' fd' F', hr, by rw [← hx']; exact hmg, F'.kp, hb h2.1.2⟩
      · have h1 := lookup_mem hx
        obtain ⟨p, hp, ep⟩ := List.mem_map.mp (show (x, m, shs) ∈ L.kt.map _ from h1)
        cases ep
        have h2 := (List.all_eq_true.mp hft.2) _ hp
        split at h2
        · rename_i e' he'
          have hi := of_decide_eq_true h2
          have hx' : e'.x = p.fst := by have := List.find?_some he'; simpa using this
          obtain ⟨q', f', fd', F', hmg, _, hb⟩ := hD e' (List.mem_of_find?_eq_some he')
          refine ⟨n, f', fd', e'.ps, by rw [← hi]; exact levels hft0 hT hck hD hB hC hN n e' (List.mem_of_find?_eq_some he') q' f' fd' F', hr, by rw [← hx']; exact hmg, F'.kp, ?_⟩
          rw [he']
          exact hb
        · cases h2
      · exact hC (x, d) (lookup_mem hx)
    exact ss_ok (fun c st => ckSt_ok (ckR_ok (L.ke e) (Run L.T wf n) 40) ⟨C, rfl, S.kind, PassesOwn.leaving, fun _ => rfl⟩ 20 c st) _ _ c4
end
end DI

/-! DI18: from the levels to the law. -/
namespace DI
open PySem L2 PySem.Spec PyProof.Rows
section
variable {P : Program} {w : World} {K : PySem.W.Frag} {mg mb : Str → Option Value} {n : Nat} {fa a : Addr} {fd : FuncData} {x : Str} {φ : List R → Option (R × List R)} {s : Shared} {us : List Value} {ns : List Int}
/-- the promise, asked for the script alone -/
theorem sp_yes {H : Hp} {vs : List V} (hy : Yes φ ns) (hv : vs = ns.map V.int) (hs : SqF K H a vs) : spG K φ [.ref a] H fun v _ => v = .bl true := by
  obtain ⟨outs, h⟩ := hy
  refine ⟨[scr ns], _, outs, [], h, ⟨rfl, fun i r hr => ?_, fun i j xs ys b h1 _ _ _ => ?_, fun b hb => by cases hb⟩, fun v H' O' _ hR => by cases hR; rfl⟩
  · rw [gt_map] at hr
    match i, hr with
    | 0, hr =>
      cases hr
      subst hv
      exact ⟨.ref a, rfl, a, _, rfl, hs, dqA_ints ns⟩
    | i + 1, hr => simp at hr
  · rw [gt_map] at h1
    match i, h1 with
    | 0, h1 => cases h1
    | i + 1, h1 => simp at h1
/-- what is tracked at the start: the script, unless it is an object of the module -/
def H1 (K : PySem.W.Frag) (a : Addr) (us : List Value) (ns : List Int) : Hp := fun b =>
  if b = a ∧ K.lookup a = none then some (.frz { cls := .type "list", data := .seq us.toArray } (.lst (ns.map V.int))) else none
theorem H1_some {b : Addr} {u : HO} (h : H1 K a us ns b = some u) : b = a ∧ K.lookup a = none ∧ u = .frz { cls := .type "list", data := .seq us.toArray } (.lst (ns.map V.int)) := by
  unfold H1 at h
  split at h
  · rename_i c
    exact ⟨c.1, c.2, (Option.some.inj h).symm⟩
  · cases h
theorem law_meets (KX : K.In s.heap) (hns : s.heap.Ns mainGlobals mg) (hb : s.heap.Ns builtinsNs mb) (hbb : ∀ y : Str, y ≠ "__name__" → mb y = bootBuiltins y) (hlim : s.heap.NoLimit) (hg : s.gens = #[])
    (ha : s.heap.get? a = some { cls := .type "list", data := .seq us.toArray }) (hi : IntsAre us ns) (hl : ns.length ≤ sizeLine) (hr : Room n callerA)
    (F : ∀ base : Heap, K.In base → base.Ns mainGlobals mg → FnG P w K mg base n fa fd [x] (spG K φ)) (hbind : BindsTo s fd ⟨[.ref a], []⟩ [(x, .ref a)]) (hy : Yes φ ns) :
    codeAny (model P w) callerA (.call (.ref fa) ⟨[.ref a], []⟩) (fun r t => r = .ok (.ret (.bool true)) ∧ OldK s.heap t.heap ∧ t.os = s.os ∧ AllBare t.gens) s := by
  have lenU := hi.length
  have relU := vals_ints hi
  let H := H1 K a us ns
  -- the heap without the script
  have low : ∀ {b : Addr} {o : Obj}, s.heap.get? b = some o → (b = a → K.lookup a ≠ none) → (hidT s.heap H).get? b = some o := fun {b o} e hne => by
    refine hidT_get e ?_
    cases q : H b with
    | none => rfl
    | some u =>
      obtain ⟨h1, h2, _⟩ := H1_some q
      exact absurd h2 (hne h1)
  have lowNs : ∀ {b : Addr} {m : Str → Option Value}, s.heap.Ns b m → (hidT s.heap H).Ns b m := fun {b m} ⟨o, es, ep, h1, h2, h3⟩ => by
    refine ⟨o, es, ep, low h1 fun q => ?_, h2, h3⟩
    subst q
    rw [h1] at ha
    cases ha
    cases h2
  have KL : K.In (hidT s.heap H) := fun b o h => low (KX b o h) fun q z => by rw [q, z] at h; cases h
  have limL : (hidT s.heap H).NoLimit := by
    obtain ⟨m, h1, h2⟩ := hlim
    exact ⟨m, lowNs h1, h2⟩
  have hok : HOk P w H s.heap := fun b u q => by
    obtain ⟨h1, h2, h3⟩ := H1_some q
    subst h1 h3
    exact ⟨ha, by rw [List.length_map]; exact hl, us, _, relU, ha⟩
  have md : Mod K mg (hidT s.heap H) := { kin := KL, glob := lowNs hns, blt := ⟨mb, lowNs hb, hbb⟩, nolimit := limL }
  have e0 : Env0 P w K mg (hidT s.heap H) callerA [] s H :=
    { frames := rfl, mod := md, bs := fun b o h => of_hidT h, bsz := by rw [hidT_size]; exact Nat.le_refl _, funs := trivial, frf := fun b h => (by cases h), hok := hok, bare := .of_eq hg }
  have sq : SqF K H a (ns.map V.int) := by
    cases hk : K.lookup a with
    | none => exact .inl ⟨_, if_pos ⟨rfl, hk⟩⟩
    | some o =>
      have h1 := KX a o hk
      rw [h1] at ha
      cases ha
      refine .inr ⟨_, us.toArray, _, hk, rfl, rfl, rfl, ?_, by simpa using relU⟩
      rw [List.size_toArray, lenU]
      exact hl
  have run := (F _ KL (lowNs hns)).run callerA [] s H { pos := [.ref a], kw := [] } [.ref a] [.ref a] _ hr rfl e0 hbind (.cons rfl .nil) (sp_yes hy rfl sq)
  refine codeAny_mono run ?_
  intro r t h
  match r, h with
  | .ok (.ret u), ⟨v, H', h1, h2, un, ok2, rv, hv⟩ =>
    have hv : v = .bl true := hv
    subst hv
    cases rv
    refine ⟨rfl, OldK.of_keep fun b o h => ?_, h1, h2⟩
    cases q : H b with
    | none => exact un.keep b o h q (by intro z; cases z) (by intro z; cases z)
    | some u =>
      obtain ⟨e1, _, e3⟩ := H1_some q
      subst e3
      have q2 := un.frzs b _ _ q
      have h3 := (ok2 b _ q2).1
      rw [e1, ha] at h
      cases h
      exact h3
  | .ok .next, h => cases h
  | .ok .brk, h => cases h
  | .ok .cont, h => cases h
  | .error e, h => cases h
end
/-- the goal behind the head -/
theorem walkG {l : PySem.W.OpenLaw} {m n : Nat} {q : Program} {loose : List Str} {XP : (Str → Option Value) → Heap → Prop} {YP : World → Heap → Prop} {d : DefRec} {K : Params → PySem.W.Frag} {x : Str} {φ : List R → Option (R × List R)}
    (hm : l.most = some m) (hm2 : m ≤ sizeLine) (hdf : d.params.defaults = []) (hr : Room n callerA) (hY : ∀ (w : World) (h : Heap), YP w h → (K w.params).In h) (hy : ∀ ns : List Int, ns.length ≤ m → Yes φ ns)
    (F : ∀ (w : World) (mg : Str → Option Value) (fa : Addr) (h : Heap), (K w.params).In h → h.Ns mainGlobals mg → mg d.name = some (.ref fa) →
      ∃ fd : FuncData, Binds (K w.params) fd [x] [] ∧ ∀ base : Heap, (K w.params).In base → base.Ns mainGlobals mg → FnG l.prog w (K w.params) mg base n fa fd [x] (spG (K w.params) φ)) :
    PySem.W.WalkO q loose XP YP l.row.toRowW d [] (fun f vs => PySem.call f vs) := by
  apply Att.attach_call hm hdf
  intro w s0 s1 mg mb fa o pm cd doc a us ns G Y ho hod hcd hmg hobj hints hlen hgen
  obtain ⟨fd, hB, hF⟩ := F w mg fa s1.heap (hY w _ Y) G.T.g hmg
  have hb := hB s1 [.ref a] (hY w _ Y) rfl
  exact law_meets (hY w _ Y) G.T.g G.T.b G.T.builtins G.T.nolimit hgen hobj hints (Nat.le_trans hlen hm2) hr hF hb (hy ns hlen)
section
variable {l : PySem.W.OpenLaw} {w : World} {K : PySem.W.Frag} {mg : Str → Option Value} {h : Heap} {fa : Addr} {L : Lw} {wf n li : Nat} {x : Str} {e : Ent}
/-- what is asked of the law's def, from the table -/
theorem law_of (hfa : mg e.x = some (.ref fa)) (hpl : e.pl = true) (hps : e.ps = [x]) (he : e ∈ L.tab) (hid : e.id = li) (hft : ckFt L = true) (hT : ∀ e ∈ L.tab, L.T e.id = some e.fd) (hck : L.tab.all (ckEnt L) = true) (hD : ∀ e ∈ L.tab, DefOk K mg e) (hB : ∀ x ∈ L.bu, mg x = none) (hC : ∀ p ∈ L.ct, CstOk K mg p.1 p.2) (hN : PySem.W.nsIn K cStatics digitsName = some none) :
    ∃ fd : FuncData, Binds K fd [x] [] ∧ ∀ base : Heap, K.In base → base.Ns mainGlobals mg → FnG l.prog w K mg base n fa fd [x] (spG K (Run L.T wf n li)) := by
  obtain ⟨qual, f, fd, F, hmg, hb, _⟩ := hD e he
  rw [hfa] at hmg
  cases hmg
  rw [← hps]
  exact ⟨fd, hb hpl, fun base _ _ => by rw [← hid]; exact levels hft hT hck hD hB hC hN n e he qual fa fd F⟩
theorem defOk_mk {qual : Str} {f : Addr} {oc : Value} {od an : Option Addr} {osl : Array (Option Value)} {kV doc pm cdv ct : Value} (KX : K.In h) (G : h.Ns mainGlobals mg) (a : PySem.W.nsIn K mainGlobals e.x = some (some (.ref f)))
    (lk : K.lookup f = some ⟨oc, od, .func (PySem.W.fnOf e.x qual (defArgs e.st) (defBody e.st) (defScope e.st) .none kV doc pm an cdv ct), osl⟩) (c : PySem.W.codeIn K cdv qual = true) (k : PySem.W.keepIn K (.ref f) = true)
    (hb : e.pl = true → ∀ (kV doc pm : Value) (an : Option Addr) (cdv ct : Value) (us : List Value), us.length = e.ps.length → bindArgs (PySem.W.fnOf e.x qual (defArgs e.st) (defBody e.st) (defScope e.st) .none kV doc pm an cdv ct) ⟨us, []⟩ = pure (e.ps.zip us))
    (hs : ∀ sh ∈ e.shs, ∃ g, KBn K (PySem.W.fnOf e.x qual (defArgs e.st) (defBody e.st) (defScope e.st) .none kV doc pm an cdv ct) e.ps sh.n sh.ks g (fun vs zs => pickV sh.ord (vs ++ zs))) : DefOk K mg e := by
  have F := fun_mk (st := e.st) lk c k
  exact ⟨qual, f, _, F, PySem.W.mg_of KX G a, fun hp => F.binds (hb hp), hs⟩
theorem ms_nil {K : PySem.W.Frag} {D : Addr} : ∀ q ∈ ([] : List (Str × V)), ∃ u, PySem.W.nsIn K D q.1 = some (some u) ∧ RelV q.2 u := fun _ h => by cases h
theorem ms_cons {K : PySem.W.Frag} {D : Addr} {p : Str × V} {r : List (Str × V)} {u : Value} (h : PySem.W.nsIn K D p.1 = some (some u)) (hr : RelV p.2 u) (t : ∀ q ∈ r, ∃ u, PySem.W.nsIn K D q.1 = some (some u) ∧ RelV q.2 u) :
    ∀ q ∈ p :: r, ∃ u, PySem.W.nsIn K D q.1 = some (some u) ∧ RelV q.2 u := fun s hs => (List.mem_cons.mp hs).elim (fun e => by rw [e]; exact ⟨u, h, hr⟩) fun m => t s m
theorem shs_nil {K : PySem.W.Frag} {fd : FuncData} {ps : List Str} : ∀ sh ∈ ([] : List Shp), ∃ g, KBn K fd ps sh.n sh.ks g (fun vs zs => pickV sh.ord (vs ++ zs)) := fun _ h => by cases h
theorem shs_cons {K : PySem.W.Frag} {fd : FuncData} {ps : List Str} {sh : Shp} {r : List Shp} (h : ∃ g, KBn K fd ps sh.n sh.ks g (fun vs zs => pickV sh.ord (vs ++ zs))) (t : ∀ sh ∈ r, ∃ g, KBn K fd ps sh.n sh.ks g (fun vs zs => pickV sh.ord (vs ++ zs))) :
    ∀ s ∈ sh :: r, ∃ g, KBn K fd ps s.n s.ks g (fun vs zs => pickV s.ord (vs ++ zs)) := fun s hs => (List.mem_cons.mp hs).elim (fun e => by rw [e]; exact h) fun m => t s m
end
end DI

/-! DIP: loops of the interpreter, by rules. -/
namespace DI
open PySem
section
variable {Φ : Phi} {own : List Nat} {elt : CE} {t : CT} {it : CI} {ifs : CEs} {ρ ρ1 ρ2 ρ3 : Rho} {x y : PyData} {xs ys : List PyData} {r : R}
/-- a turn of a comprehension -/
noncomputable def lcF (Φ : Phi) (own : List Nat) (elt : CE) (t : CT) (ifs : CEs) : PyData → Rho → Option (Option PyData × Rho) := fun x ρ' => (bindT [] t x ρ').bind fun ρ1 => (evTs Φ ifs ρ1).bind fun q =>
  if q.1 = true then (ev Φ elt q.2).bind fun s => (toD s.1).map fun y => (some y, wipeR s.2 own) else some (none, wipeR q.2 own)
theorem ev_lc (h1 : evI Φ it ρ = some (xs, ρ1)) (h2 : lcL (lcF Φ own elt t ifs) xs (wipeR ρ1 own) = some (ys, ρ2)) (hl : ys.length ≤ limLen) : ev Φ (.lc own elt t it ifs) ρ = some (.l ys, restoreR ρ1 ρ2 own) := by
  rw [ev, h1, Option.bind_some]
  show (lcL (lcF Φ own elt t ifs) xs (wipeR ρ1 own)).bind _ = _
  rw [h2, Option.bind_some, if_pos hl]
theorem lcF_yes (h1 : bindT [] t x ρ = some ρ1) (h2 : evTs Φ ifs ρ1 = some (true, ρ2)) (h3 : ev Φ elt ρ2 = some (r, ρ3)) (h4 : toD r = some y) : lcF Φ own elt t ifs x ρ = some (some y, wipeR ρ3 own) := by
  rw [lcF, h1, Option.bind_some, h2, Option.bind_some, if_pos rfl, h3, Option.bind_some, h4]
  rfl
theorem lcF_no (h1 : bindT [] t x ρ = some ρ1) (h2 : evTs Φ ifs ρ1 = some (false, ρ2)) : lcF Φ own elt t ifs x ρ = some (none, wipeR ρ2 own) := by
  rw [lcF, h1, Option.bind_some, h2, Option.bind_some, if_neg Bool.false_ne_true]
theorem evTs_nil : evTs Φ .nil ρ = some (true, ρ) := by rw [evTs]
theorem evTs_one {c : CE} {b : Bool} (h : evT Φ c ρ = some (b, ρ1)) : evTs Φ (.cons c .nil) ρ = some (b, ρ1) := by
  rw [evTs, h, Option.bind_some]
  cases b with
  | true => rw [if_pos rfl, evTs]
  | false => rfl
variable {f : PyData → Rho → Option (Option PyData × Rho)}
theorem lcL_nil : lcL f [] ρ = some ([], ρ) := rfl
theorem lcL_yes (h1 : f x ρ = some (some y, ρ1)) (h2 : lcL f xs ρ1 = some (ys, ρ2)) : lcL f (x :: xs) ρ = some (y :: ys, ρ2) := by
  rw [lcL, h1, Option.bind_some, h2]
  rfl
theorem lcL_no (h1 : f x ρ = some (none, ρ1)) (h2 : lcL f xs ρ1 = some (ys, ρ2)) : lcL f (x :: xs) ρ = some (ys, ρ2) := by
  rw [lcL, h1, Option.bind_some, h2]
  rfl
/-- every turn leaves the slots as they were -/
theorem lcL_same {g : PyData → Option PyData} : ∀ {xs : List PyData}, (∀ x ∈ xs, f x ρ = some (g x, ρ)) → lcL f xs ρ = some (xs.filterMap g, ρ)
  | [], _ => rfl
  | x :: xs, h => by
    have ih := lcL_same (xs := xs) fun x hx => h x (List.mem_cons_of_mem _ hx)
    have h1 := h x List.mem_cons_self
    rw [List.filterMap_cons]
    cases e : g x with
    | none => rw [e] at h1; exact lcL_no h1 ih
    | some y => rw [e] at h1; exact lcL_yes h1 ih
theorem lcL_map {g : PyData → PyData} {xs : List PyData} (h : ∀ x ∈ xs, f x ρ = some (some (g x), ρ)) : lcL f xs ρ = some (xs.map g, ρ) := by
  have := lcL_same (g := fun x => some (g x)) h
  rw [this]
  congr 2
  exact congrFun List.filterMap_eq_map xs
end
/-! ### statements -/
section
variable {Φ : Phi} {wf : Nat} {io : List Nat} {t : CT} {it : CI} {body : CSs} {ρ ρ1 ρ2 ρ3 : Rho} {x : PyData} {xs : List PyData} {s : CS} {ss : CSs} {fl : Fl} {r : R}
noncomputable def forF (Φ : Phi) (wf : Nat) (io : List Nat) (t : CT) (body : CSs) : PyData → Rho → Option (Fl × Rho) := fun x ρ' => (bindT io t x ρ').bind fun ρ1 => exs Φ wf io body ρ1
theorem ex_for (h1 : evI Φ it ρ = some (xs, ρ1)) (h2 : forL (forF Φ wf io t body) xs ρ1 = some (fl, ρ2)) : ex Φ wf io (.forS t it body) ρ = some (fl, ρ2) := by
  rw [ex, h1, Option.bind_some]
  exact h2
theorem forF_of (h1 : bindT io t x ρ = some ρ1) (h2 : exs Φ wf io body ρ1 = some (fl, ρ2)) : forF Φ wf io t body x ρ = some (fl, ρ2) := by
  rw [forF, h1, Option.bind_some, h2]
theorem exs_nil : exs Φ wf io .nil ρ = some (.nx, ρ) := by rw [exs]
theorem exs_nx (h1 : ex Φ wf io s ρ = some (.nx, ρ1)) (h2 : exs Φ wf io ss ρ1 = some (fl, ρ2)) : exs Φ wf io (.cons s ss) ρ = some (fl, ρ2) := by
  rw [exs, h1, Option.bind_some]
  exact h2
theorem exs_rt (h1 : ex Φ wf io s ρ = some (.rt r, ρ1)) : exs Φ wf io (.cons s ss) ρ = some (.rt r, ρ1) := by
  rw [exs, h1, Option.bind_some]
theorem exs_bk (h1 : ex Φ wf io s ρ = some (.bk, ρ1)) : exs Φ wf io (.cons s ss) ρ = some (.bk, ρ1) := by
  rw [exs, h1, Option.bind_some]
theorem exs_ct (h1 : ex Φ wf io s ρ = some (.ct, ρ1)) : exs Φ wf io (.cons s ss) ρ = some (.ct, ρ1) := by
  rw [exs, h1, Option.bind_some]
variable {f : PyData → Rho → Option (Fl × Rho)}
theorem forL_nil : forL f [] ρ = some (.nx, ρ) := rfl
theorem forL_nx (h1 : f x ρ = some (.nx, ρ1)) (h2 : forL f xs ρ1 = some (fl, ρ2)) : forL f (x :: xs) ρ = some (fl, ρ2) := by
  rw [forL, h1, Option.bind_some]
  exact h2
theorem forL_ct (h1 : f x ρ = some (.ct, ρ1)) (h2 : forL f xs ρ1 = some (fl, ρ2)) : forL f (x :: xs) ρ = some (fl, ρ2) := by
  rw [forL, h1, Option.bind_some]
  exact h2
theorem forL_bk (h1 : f x ρ = some (.bk, ρ1)) : forL f (x :: xs) ρ = some (.nx, ρ1) := by
  rw [forL, h1, Option.bind_some]
theorem forL_rt (h1 : f x ρ = some (.rt r, ρ1)) : forL f (x :: xs) ρ = some (.rt r, ρ1) := by
  rw [forL, h1, Option.bind_some]
/-- an invariant through a for that always goes on -/
theorem forL_inv (P : Rho → Prop) (h : ∀ x ∈ xs, ∀ ρ, P ρ → ∃ ρ', f x ρ = some (.nx, ρ') ∧ P ρ') : ∀ {ρ : Rho}, P ρ → ∃ ρ', forL f xs ρ = some (.nx, ρ') ∧ P ρ' := by
  induction xs with
  | nil => exact fun {ρ} p => ⟨ρ, rfl, p⟩
  | cons x xs ih =>
    intro ρ p
    obtain ⟨ρ1, h1, p1⟩ := h x List.mem_cons_self ρ p
    obtain ⟨ρ2, h2, p2⟩ := ih (fun x hx => h x (List.mem_cons_of_mem _ hx)) p1
    exact ⟨ρ2, forL_nx h1 h2, p2⟩
end
theorem cmp_eq_int (a b : Int) : cmp .eq (.int a) (.int b) = some (decide (a = b)) := by
  have e : PyData.eqv (.int a) (.int b) = decide (a = b) := by
    show (a == b) = _
    by_cases z : a = b
    · subst z; simp
    · rw [decide_eq_false z]; simpa using z
  show (if SeqAt.shaped (.int a) = true ∧ SeqAt.shaped (.int b) = true then some (PyData.eqv (.int a) (.int b)) else none) = _
  rw [if_pos ⟨rfl, rfl⟩, e]
theorem cmp_ne_int (a b : Int) : cmp .ne (.int a) (.int b) = some (!decide (a = b)) := by
  show (cmp .eq (.int a) (.int b)).map (!·) = _
  rw [cmp_eq_int]
  rfl
theorem cmp_lt (x y : PyData) : cmp .lt x y = cmpLt x y := rfl
theorem cmp_le (x y : PyData) : cmp .le x y = cmpLe x y := rfl
theorem cmp_gt (x y : PyData) : cmp .gt x y = cmpLt y x := rfl
theorem cmp_ge (x y : PyData) : cmp .ge x y = cmpLe y x := rfl
theorem cmp_isin (x y : PyData) : cmp .isin x y = cmpIn x y := rfl
theorem cmp_notin (x y : PyData) : cmp .notin x y = (cmpIn x y).map (!·) := rfl
theorem cmp_is (x y : PyData) : cmp .is x y = isD x y := rfl
theorem cmp_isnot (x y : PyData) : cmp .isnot x y = (isD x y).map (!·) := rfl
/-! ### items -/
theorem atI_nat {xs : List PyData} {k : Nat} {x : PyData} (h : xs[k]? = some x) : L2.atI xs (k : Nat) = some x := by
  have hk := (List.getElem?_eq_some_iff.mp h).1
  unfold L2.atI L2.ixN
  rw [if_pos (by omega), if_pos (by omega), Option.bind_some, Int.toNat_natCast]
  exact h
theorem atI_0 (x : PyData) (xs : List PyData) : L2.atI (x :: xs) 0 = some x := atI_nat (k := 0) rfl
theorem atI_1 (x y : PyData) (xs : List PyData) : L2.atI (x :: y :: xs) 1 = some y := atI_nat (k := 1) rfl
theorem atI_2 (x y z : PyData) (xs : List PyData) : L2.atI (x :: y :: z :: xs) 2 = some z := atI_nat (k := 2) rfl
theorem atI_3 (x y z u : PyData) (xs : List PyData) : L2.atI (x :: y :: z :: u :: xs) 3 = some u := atI_nat (k := 3) rfl
/-! ### targets, case by case -/
theorem bt_nm (io : List Nat) (i : Nat) (x : PyData) (ρ : Rho) : bindT io (.nm i) x ρ = setS io i (.d x) ρ := by rw [bindT]
theorem bt_tp_tuple (io : List Nat) (ts : CTs) (xs : List PyData) (ρ : Rho) : bindT io (.tp ts) (.tuple xs) ρ = if xs.length = ts.len then bindTs io ts xs ρ else none := by rw [bindT]
theorem bt_tp_list (io : List Nat) (ts : CTs) (xs : List PyData) (ρ : Rho) : bindT io (.tp ts) (.list xs) ρ = if xs.length = ts.len then bindTs io ts xs ρ else none := by rw [bindT]
theorem bt_stp (io : List Nat) (ts us : CTs) (i : Nat) (xs : List PyData) (ρ : Rho) : bindT io (.stp ts i us) (.tuple xs) ρ = if ts.len + us.len ≤ xs.length then
      (bindTs io ts (xs.take ts.len) ρ).bind fun ρ1 => (setS io i (.l ((xs.drop ts.len).take (xs.length - ts.len - us.len))) ρ1).bind fun ρ2 => bindTs io us (xs.drop (xs.length - us.len)) ρ2 else none := by rw [bindT]
theorem bt_stp_list (io : List Nat) (ts us : CTs) (i : Nat) (xs : List PyData) (ρ : Rho) : bindT io (.stp ts i us) (.list xs) ρ = if ts.len + us.len ≤ xs.length then
      (bindTs io ts (xs.take ts.len) ρ).bind fun ρ1 => (setS io i (.l ((xs.drop ts.len).take (xs.length - ts.len - us.len))) ρ1).bind fun ρ2 => bindTs io us (xs.drop (xs.length - us.len)) ρ2 else none := by rw [bindT]
theorem bts_nil (io : List Nat) (xs : List PyData) (ρ : Rho) : bindTs io .nil xs ρ = some ρ := by cases xs <;> rw [bindTs]
theorem bts_cons (io : List Nat) (t : CT) (r : CTs) (x : PyData) (xs : List PyData) (ρ : Rho) : bindTs io (.cons t r) (x :: xs) ρ = (bindT io t x ρ).bind fun ρ1 => bindTs io r xs ρ1 := by rw [bindTs]
/-! ### built-ins, case by case -/
theorem bi_len_list (xs : List PyData) : biF .len [.list xs] = some (.d (.int xs.length)) := rfl
theorem bi_len_tuple (xs : List PyData) : biF .len [.tuple xs] = some (.d (.int xs.length)) := rfl
theorem bi_abs (i : Int) : biF .abs [.int i] = some (.d (.int (if i < 0 then -i else i))) := rfl
theorem bi_max2 (i j : Int) : biF .max2 [.int i, .int j] = some (.d (.int (if j > i then j else i))) := rfl
theorem bi_min2 (i j : Int) : biF .min2 [.int i, .int j] = some (.d (.int (if j < i then j else i))) := rfl
theorem bi_sum (xs : List PyData) : biF .sum [.list xs] = (intsD xs).map fun ns => .d (.int ns.sum) := rfl
theorem bi_all (xs : List PyData) : biF .all [.list xs] = (boolsD xs).map fun bs => .d (.bool (bs.all id)) := rfl
theorem bi_any (xs : List PyData) : biF .any [.list xs] = (boolsD xs).map fun bs => .d (.bool (bs.any id)) := rfl
theorem bi_list_list (xs : List PyData) : biF .list [.list xs] = some (.l xs) := rfl
theorem bi_list_tuple (xs : List PyData) : biF .list [.tuple xs] = some (.l xs) := rfl
theorem bi_tuple_list (xs : List PyData) : biF .tuple [.list xs] = some (.d (.tuple xs)) := rfl
theorem bi_tuple_tuple (xs : List PyData) : biF .tuple [.tuple xs] = some (.d (.tuple xs)) := rfl
theorem bi_sorted_list (xs : List PyData) : biF .sorted [.list xs] = (sortD xs).map .l := rfl
theorem bi_sorted_tuple (xs : List PyData) : biF .sorted [.tuple xs] = (sortD xs).map .l := rfl
theorem bi_int_int (i : Int) : biF .int [.int i] = some (.d (.int i)) := rfl
theorem bi_int_bool (b : Bool) : biF .int [.bool b] = some (.d (.int (if b then 1 else 0))) := rfl
theorem bi_maxL (xs : List PyData) : biF .maxL [.list xs] = ((intsD xs).bind listMax).map fun m => .d (.int m) := rfl
theorem bi_minL (xs : List PyData) : biF .minL [.list xs] = ((intsD xs).bind listMin).map fun m => .d (.int m) := rfl
theorem tru_bool (b : Bool) : tru (.bool b) = some b := rfl
theorem tru_int (i : Int) : tru (.int i) = some (i != 0) := rfl
theorem tru_none : tru .none = some false := rfl
theorem tru_list (xs : List PyData) : tru (.list xs) = some (!xs.isEmpty) := rfl
theorem tru_tuple (xs : List PyData) : tru (.tuple xs) = some (!xs.isEmpty) := rfl
theorem toD_d (x : PyData) : toD (.d x) = some x := rfl
theorem toD_l (xs : List PyData) : toD (.l xs) = some (.list xs) := rfl
theorem toD_s (xs : List PyData) : toD (.s xs) = none := rfl
theorem toD_k (xs : List (PyData × PyData)) : toD (.k xs) = none := rfl
theorem frz_d (x : PyData) : frz (.d x) = .d x := rfl
theorem frz_l (xs : List PyData) : frz (.l xs) = .d (.list xs) := rfl
theorem frz_s (xs : List PyData) : frz (.s xs) = .s xs := rfl
theorem frz_k (xs : List (PyData × PyData)) : frz (.k xs) = .k xs := rfl
theorem ix_list (xs : List PyData) (i : Int) : ixF (.list xs) (.int i) = L2.atI xs i := rfl
theorem ix_tuple (xs : List PyData) (i : Int) : ixF (.tuple xs) (.int i) = L2.atI xs i := rfl
theorem sl_list (xs : List PyData) (lo hi : Option Int) : slF (.list xs) lo hi = some (.l (cutD xs lo hi)) := rfl
theorem sl_tuple (xs : List PyData) (lo hi : Option Int) : slF (.tuple xs) lo hi = some (.d (.tuple (cutD xs lo hi))) := rfl
theorem bin_add_int (i j : Int) : bin .add (.int i) (.int j) = some (.d (.int (i + j))) := rfl
theorem bin_add_list (xs ys : List PyData) : bin .add (.list xs) (.list ys) = if xs.length + ys.length ≤ limLen then some (.l (xs ++ ys)) else none := rfl
theorem bin_add_tuple (xs ys : List PyData) : bin .add (.tuple xs) (.tuple ys) = if xs.length + ys.length ≤ limLen then some (.d (.tuple (xs ++ ys))) else none := rfl
theorem bin_add_str (x y : Str) : bin .add (.str x) (.str y) = if x.length + y.length ≤ limLen then some (.d (.str (x ++ y))) else none := rfl
theorem bin_sub_int (i j : Int) : bin .sub (.int i) (.int j) = some (.d (.int (i - j))) := rfl
theorem bin_mul_int (i j : Int) : bin .mul (.int i) (.int j) = if mulOk i j = true then some (.d (.int (i * j))) else none := rfl
theorem bin_mul_list (xs : List PyData) (k : Int) : bin .mul (.list xs) (.int k) = if -(2 ^ 63) ≤ k ∧ k < 2 ^ 63 ∧ xs.length * k.toNat ≤ limLen then some (.l (List.replicate k.toNat xs).flatten) else none := rfl
theorem bin_mul_tuple (xs : List PyData) (k : Int) : bin .mul (.tuple xs) (.int k) = if 1 ≤ xs.length ∧ xs.length ≤ 1000 ∧ 2 ≤ k ∧ k ≤ 1000 then some (.d (.tuple (List.replicate k.toNat xs).flatten)) else none := rfl
theorem bin_fdiv_int (i j : Int) : bin .fdiv (.int i) (.int j) = if 0 < j ∧ j.natAbs.log2 < 9000 then some (.d (.int (i / j))) else none := rfl
theorem bin_mod_int (i j : Int) : bin .mod (.int i) (.int j) = if 0 < j then some (.d (.int (i % j))) else none := rfl
theorem bin_pow_int (i j : Int) : bin .pow (.int i) (.int j) = if 0 ≤ j ∧ j ≤ 1000000 ∧ i.natAbs < 2 ^ 64 then some (.d (.int (i ^ j.toNat))) else none := rfl
theorem cmpLt_int (i j : Int) : cmpLt (.int i) (.int j) = some (decide (i < j)) := rfl
theorem cmpLe_int (i j : Int) : cmpLe (.int i) (.int j) = some (decide (i ≤ j)) := rfl
theorem isD_none (x : PyData) : isD x .none = some (isNone x) := by cases x <;> rfl
theorem isD_bool (a b : Bool) : isD (.bool a) (.bool b) = some (decide (a = b)) := rfl
theorem mu_append (xs : List PyData) (x : PyData) : muF .append xs [x] = if xs.length < limLen then some (.none, xs ++ [x]) else none := rfl
theorem mu_pop (xs : List PyData) : muF .pop xs [] = (xs[xs.length - 1]?).map fun y => (y, xs.dropLast) := rfl
theorem mu_extend (xs : List PyData) (y : PyData) : muF .extend xs [y] = (items y).bind fun ys => if xs.length + ys.length ≤ limLen then some (.none, xs ++ ys) else none := rfl
theorem items_list (xs : List PyData) : items (.list xs) = some xs := rfl
theorem items_tuple (xs : List PyData) : items (.tuple xs) = some xs := rfl
theorem iter_list (xs : List PyData) : iterD (.list xs) = some xs := rfl
theorem iter_tuple (xs : List PyData) : iterD (.tuple xs) = some xs := rfl
/-- a def runs -/
theorem run_of {T : Tab} {wf n f : Nat} {fd : FD} {args os : List R} {fl : Fl} {ρ : Rho} {r : R} (hf : T f = some fd) (h1 : args.length = fd.np) (h2 : fd.np ≤ fd.n) (h3 : lentR fd.io 0 args = true)
    (h : exs (DI.Run T wf n) wf fd.io fd.body (args.map some ++ List.replicate (fd.n - fd.np) none) = some (fl, ρ)) (hr : retR fl = some r) (ho : outR fd.io ρ 0 args = some os) : DI.Run T wf (n + 1) f args = some (r, os) := by
  show ((T f).bind fun fd => runF (DI.Run T wf n) wf fd args) = _
  rw [hf, Option.bind_some, runF, if_pos ⟨h1, h2, h3⟩, h, Option.bind_some, hr, Option.bind_some, ho]
  rfl
section
variable {ρ : Rho} {t0 : Option (R × Rho)}
theorem bw_var {i : Nat} : brw (.var i) ρ t0 = match gt ρ i with
    | some (.l _) => some (.s i, ρ)
    | _ => t0.map fun p => (.v p.1, p.2) := rfl
theorem bw_nev : brw .nev ρ t0 = t0.map fun p => (.v p.1, p.2) := rfl
theorem bw_lrg1 {a : CE} : brw (.lrg1 a) ρ t0 = t0.map fun p => (.v p.1, p.2) := rfl
theorem bw_lrg2 {a b : CE} : brw (.lrg2 a b) ρ t0 = t0.map fun p => (.v p.1, p.2) := rfl
theorem bw_cst {d : PyData} : brw (.cst d) ρ t0 = t0.map fun p => (.v p.1, p.2) := rfl
theorem bw_glob {g : Nat} {d : PyData} : brw (.glob g d) ρ t0 = t0.map fun p => (.v p.1, p.2) := rfl
theorem bw_bin {o : BOp} {a b : CE} : brw (.bin o a b) ρ t0 = t0.map fun p => (.v p.1, p.2) := rfl
theorem bw_neg {a : CE} : brw (.neg a) ρ t0 = t0.map fun p => (.v p.1, p.2) := rfl
theorem bw_cmp {o : COp} {a b : CE} : brw (.cmp o a b) ρ t0 = t0.map fun p => (.v p.1, p.2) := rfl
theorem bw_chain {o p : COp} {a b c : CE} : brw (.chain o p a b c) ρ t0 = t0.map fun p => (.v p.1, p.2) := rfl
theorem bw_and {a b : CE} : brw (.and a b) ρ t0 = t0.map fun p => (.v p.1, p.2) := rfl
theorem bw_or {a b : CE} : brw (.or a b) ρ t0 = t0.map fun p => (.v p.1, p.2) := rfl
theorem bw_not {a : CE} : brw (.not a) ρ t0 = t0.map fun p => (.v p.1, p.2) := rfl
theorem bw_ite {c a b : CE} : brw (.ite c a b) ρ t0 = t0.map fun p => (.v p.1, p.2) := rfl
theorem bw_tup {es : CEs} : brw (.tup es) ρ t0 = t0.map fun p => (.v p.1, p.2) := rfl
theorem bw_lst {es : CEs} : brw (.lst es) ρ t0 = t0.map fun p => (.v p.1, p.2) := rfl
theorem bw_callK {f : Nat} {io iok : List Bool} {es eks : CEs} {ord : List (Option Nat × PyData)} : brw (.callK f io es iok eks ord) ρ t0 = t0.map fun p => (.v p.1, p.2) := rfl
theorem bw_call {f : Nat} {io : List Bool} {es : CEs} : brw (.call f io es) ρ t0 = t0.map fun p => (.v p.1, p.2) := rfl
theorem bw_bi {b : Bi} {es : CEs} : brw (.bi b es) ρ t0 = t0.map fun p => (.v p.1, p.2) := rfl
theorem bw_isi {t : Ty} {e : CE} : brw (.isi t e) ρ t0 = t0.map fun p => (.v p.1, p.2) := rfl
theorem bw_mu {m : Mu} {i : Nat} {es : CEs} : brw (.mu m i es) ρ t0 = t0.map fun p => (.v p.1, p.2) := rfl
theorem bw_mt {m : Mt} {o : CE} {es : CEs} : brw (.mt m o es) ρ t0 = t0.map fun p => (.v p.1, p.2) := rfl
theorem bw_ix {a b : CE} : brw (.ix a b) ρ t0 = t0.map fun p => (.v p.1, p.2) := rfl
theorem bw_sl {a : CE} {lo hi : Option CE} : brw (.sl a lo hi) ρ t0 = t0.map fun p => (.v p.1, p.2) := rfl
theorem bw_rev {a : CE} : brw (.rev a) ρ t0 = t0.map fun p => (.v p.1, p.2) := rfl
theorem bw_slen {i : Nat} : brw (.slen i) ρ t0 = t0.map fun p => (.v p.1, p.2) := rfl
theorem bw_six {i : Nat} {b : CE} : brw (.six i b) ρ t0 = t0.map fun p => (.v p.1, p.2) := rfl
theorem bw_lc {own : List Nat} {elt : CE} {t : CT} {it : CI} {ifs : CEs} : brw (.lc own elt t it ifs) ρ t0 = t0.map fun p => (.v p.1, p.2) := rfl
theorem bw_lc2 {own own2 : List Nat} {elt : CE} {t : CT} {it : CI} {ifs : CEs} {t2 : CT} {it2 : CI} {ifs2 : CEs} : brw (.lc2 own own2 elt t it ifs t2 it2 ifs2) ρ t0 = t0.map fun p => (.v p.1, p.2) := rfl
theorem bw_sset {a : CE} : brw (.sset a) ρ t0 = t0.map fun p => (.v p.1, p.2) := rfl
theorem bw_cp {k : Kp} {own : List Nat} {t : CT} {it : CI} {ifs : CEs} {r : CCs} : brw (.cp k own t it ifs r) ρ t0 = t0.map fun p => (.v p.1, p.2) := rfl
theorem bw_maxd {a d : CE} : brw (.maxd a d) ρ t0 = t0.map fun p => (.v p.1, p.2) := rfl
theorem bw_dsp {ks : List PyData} {es : CEs} : brw (.dsp ks es) ρ t0 = t0.map fun p => (.v p.1, p.2) := rfl
theorem bw_dget {a x d : CE} : brw (.dget a x d) ρ t0 = t0.map fun p => (.v p.1, p.2) := rfl
theorem bw_dix {a x : CE} : brw (.dix a x) ρ t0 = t0.map fun p => (.v p.1, p.2) := rfl
theorem bw_dzip {a b : CE} : brw (.dzip a b) ρ t0 = t0.map fun p => (.v p.1, p.2) := rfl
theorem bw_gget {g : Nat} {kvs : List (PyData × PyData)} {x d : CE} : brw (.gget g kvs x d) ρ t0 = t0.map fun p => (.v p.1, p.2) := rfl
theorem bw_gix {g : Nat} {kvs : List (PyData × PyData)} {x : CE} : brw (.gix g kvs x) ρ t0 = t0.map fun p => (.v p.1, p.2) := rfl
theorem bw_rpr {t : Bool} {es : CEs} : brw (.rpr t es) ρ t0 = t0.map fun p => (.v p.1, p.2) := rfl
theorem bw_ch3 {o p q : COp} {a b c d : CE} : brw (.ch3 o p q a b c d) ρ t0 = t0.map fun p => (.v p.1, p.2) := rfl
end
/-! ### comprehensions of several clauses -/
section
variable {Φ : Phi} {own : List Nat} {t : CT} {it : CI} {ifs : CEs} {r : CCs} {ρ ρ1 ρ2 ρ3 : Rho} {x y : PyData} {xs ys zs : List PyData} {v : R} {k : Kp} {e : CE}
noncomputable def cpF (Φ : Phi) (own : List Nat) (t : CT) (ifs : CEs) (r : CCs) : PyData → Rho → Option (List PyData × Rho) := fun x ρ' => (bindT [] t x ρ').bind fun ρ1 => (evTs Φ ifs ρ1).bind fun q =>
  if q.1 = true then (evC Φ r q.2).map fun s => (s.1, wipeR s.2 own) else some ([], wipeR q.2 own)
theorem ev_cp (h1 : evI Φ it ρ = some (xs, ρ1)) (h2 : lcC (cpF Φ own t ifs r) xs (wipeR ρ1 own) = some (ys, ρ2)) (h3 : finK k ys = some v) : ev Φ (.cp k own t it ifs r) ρ = some (v, restoreR ρ1 ρ2 own) := by
  rw [ev, h1, Option.bind_some]
  show (lcC (cpF Φ own t ifs r) xs (wipeR ρ1 own)).bind _ = _
  rw [h2, Option.bind_some, h3]
  rfl
theorem evC_cons (h1 : evI Φ it ρ = some (xs, ρ1)) (h2 : lcC (cpF Φ own t ifs r) xs (wipeR ρ1 own) = some (ys, ρ2)) : evC Φ (.cons own t it ifs r) ρ = some (ys, ρ2) := by
  rw [evC, h1, Option.bind_some]
  exact h2
theorem evC_last (h1 : ev Φ e ρ = some (v, ρ1)) (h2 : toD v = some y) : evC Φ (.last e) ρ = some ([y], ρ1) := by
  rw [evC, h1, Option.bind_some, h2]
  rfl
theorem cpF_yes (h1 : bindT [] t x ρ = some ρ1) (h2 : evTs Φ ifs ρ1 = some (true, ρ2)) (h3 : evC Φ r ρ2 = some (zs, ρ3)) : cpF Φ own t ifs r x ρ = some (zs, wipeR ρ3 own) := by
  rw [cpF, h1, Option.bind_some, h2, Option.bind_some, if_pos rfl, h3]
  rfl
theorem cpF_no (h1 : bindT [] t x ρ = some ρ1) (h2 : evTs Φ ifs ρ1 = some (false, ρ2)) : cpF Φ own t ifs r x ρ = some ([], wipeR ρ2 own) := by
  rw [cpF, h1, Option.bind_some, h2, Option.bind_some, if_neg Bool.false_ne_true]
variable {f : PyData → Rho → Option (List PyData × Rho)}
theorem lcC_nil : lcC f [] ρ = some ([], ρ) := rfl
theorem lcC_cons (h1 : f x ρ = some (ys, ρ1)) (h2 : lcC f xs ρ1 = some (zs, ρ2)) : lcC f (x :: xs) ρ = some (ys ++ zs, ρ2) := by
  rw [lcC, h1, Option.bind_some, h2]
  rfl
/-- every turn leaves the slots as they were -/
theorem lcC_same {g : PyData → List PyData} : ∀ {xs : List PyData}, (∀ x ∈ xs, f x ρ = some (g x, ρ)) → lcC f xs ρ = some (xs.flatMap g, ρ)
  | [], _ => rfl
  | x :: xs, h => by
    have ih := lcC_same (xs := xs) fun x hx => h x (List.mem_cons_of_mem _ hx)
    rw [List.flatMap_cons]
    exact lcC_cons (h x List.mem_cons_self) ih
end
end DI

namespace DB
open PySem DI
/-- is_whole(thing): 0=thing -/
def b1 : CSs :=
  (.cons (.ret (.and (.isi .int (.var 0)) (.not (.isi .bool (.var 0)))))
  .nil)
def F1 : FD := ⟨1, 1, [], b1⟩
/-- is_unit(c, world): 0=c 1=world -/
def b2 : CSs :=
  (.cons (.ret (.ite (.cmp .gt (.var 1) (.cst (.int 0))) (.cmp .ne (.bin .mod (.var 0) (.var 1)) (.cst (.int 0))) (.cmp .isin (.var 0) (.tup (.cons (.cst (.int 1)) (.cons (.neg (.cst (.int 1))) .nil))))))
  .nil)
def F2 : FD := ⟨2, 2, [], b2⟩
/-- are_numbers(thing, below, most): 0=thing 1=below 2=most 3=one -/
def c0_3 : CE := (.lc [3] (.call 1 [false] (.cons (.var 3) .nil)) (.nm 3) (.val (.var 0)) .nil)
theorem wc0_3 (ρ : Rho) (t : Option (R × Rho)) : brw c0_3 ρ t = t.map fun p => (.v p.1, p.2) := rfl
def c1_3 : CE := (.lc [3] (.chain .le .lt (.cst (.int 0)) (.var 3) (.var 1)) (.nm 3) (.val (.var 0)) .nil)
theorem wc1_3 (ρ : Rho) (t : Option (R × Rho)) : brw c1_3 ρ t = t.map fun p => (.v p.1, p.2) := rfl
def b3 : CSs :=
  (.cons (.ifS (.or (.not (.isi .tuple (.var 0))) (.or (.cmp .gt (.bi .len (.cons (.var 0) .nil)) (.var 2)) (.not (.bi .all (.cons c0_3 .nil))))) (.cons (.ret (.cst (.bool false)))
  .nil) .nil)
  (.cons (.ret (.and (.bi .all (.cons c1_3 .nil)) (.cmp .eq (.bi .list (.cons (.var 0) .nil)) (.bi .sorted (.cons (.var 0) .nil)))))
  .nil))
def F3 : FD := ⟨3, 4, [], b3⟩
/-- is_row(thing, boxes, inputs, world): 0=thing 1=boxes 2=inputs 3=world 4=to 5=c 6=rest 7=given 8=others 9=most -/
def b4 : CSs :=
  (.cons (.ifS (.or (.not (.isi .tuple (.var 0))) (.cmp .notin (.bi .len (.cons (.var 0) .nil)) (.tup (.cons (.cst (.int 2)) (.cons (.cst (.int 4)) .nil))))) (.cons (.ret (.cst (.bool false)))
  .nil) .nil)
  (.cons (.asg (.stp (.cons (.nm 4) (.cons (.nm 5) .nil)) 6 .nil) (.var 0))
  (.cons (.ifS (.or (.not (.call 1 [false] (.cons (.var 4) .nil))) (.or (.not (.chain .le .lt (.cst (.int 0)) (.var 4) (.var 1))) (.or (.not (.call 1 [false] (.cons (.var 5) .nil))) (.cmp .ge (.bi .abs (.cons (.var 5) .nil)) (.glob 0 (.int 1000000)))))) (.cons (.ret (.cst (.bool false)))
  .nil) .nil)
  (.cons (.ifS (.cmp .eq (.var 6) (.lst .nil)) (.cons (.ret (.call 2 [false, false] (.cons (.var 5) (.cons (.var 3) .nil))))
  .nil) .nil)
  (.cons (.asg (.tp (.cons (.nm 7) (.cons (.nm 8) .nil))) (.var 6))
  (.cons (.set 9 (.ite (.cmp .gt (.var 3) (.cst (.int 0))) (.glob 0 (.int 4)) (.cst (.int 1))))
  (.cons (.ret (.and (.call 3 [false, false, false] (.cons (.var 7) (.cons (.var 2) (.cons (.glob 0 (.int 2)) .nil)))) (.and (.call 3 [false, false, false] (.cons (.var 8) (.cons (.var 1) (.cons (.var 9) .nil)))) (.cmp .notin (.var 4) (.var 8)))))
  .nil)))))))
def F4 : FD := ⟨4, 10, [], b4⟩
/-- wrong_row(thing, boxes, inputs, world): 0=thing 1=boxes 2=inputs 3=world 4=place 5=row -/
def l0_5 : CS := (.forS (.tp (.cons (.nm 4) (.cons (.nm 5) .nil))) (.enum (.var 0)) (.cons (.ifS (.not (.call 4 [false, false, false, false] (.cons (.var 5) (.cons (.var 1) (.cons (.var 2) (.cons (.var 3) .nil)))))) (.cons (.retv 4)
  .nil) .nil)
  .nil))
def b5 : CSs :=
  (.cons (.ifS (.not (.isi .list (.var 0))) (.cons (.ret (.cst (.int 0)))
  .nil) .nil)
  (.cons l0_5
  (.cons (.ret (.cst .none))
  .nil)))
def F5 : FD := ⟨4, 6, [], b5⟩
/-- _law_feed(_law_script, _law_k): 0=_law_script 1=_law_k 2=_law_one 3=_law_digits -/
def b7 : CSs :=
  (.cons (.set 2 (.bin .add (.bin .mul (.cst (.int 83)) (.var 1)) (.cst (.int 29))))
  (.cons (.ifS (.cmp .lt (.var 1) (.slen 0)) (.cons (.set 2 (.six 0 (.var 1)))
  .nil) .nil)
  (.cons (.set 3 (.cst (.int 0)))
  (.cons (.ifS (.cmp .ge (.bi .abs (.cons (.var 2) .nil)) (.bin .pow (.cst (.int 10)) (.cst (.int 18)))) (.cons (.set 3 (.bin .sub (.bi .abs (.cons (.var 2) .nil)) (.bin .pow (.cst (.int 10)) (.cst (.int 18)))))
  .nil) .nil)
  (.cons (.ret (.lst (.cons (.var 3) (.cons (.bin .mod (.bin .add (.bin .add (.bin .mul (.var 2) (.cst (.int 6364136223846793005))) (.bin .mul (.cst (.int 7919)) (.var 1))) (.cst (.int 1442695040888963407))) (.cst (.int 2305843009213693951))) .nil))))
  .nil)))))
def F7 : FD := ⟨2, 4, [], b7⟩
/-- _law_take(_law_feed_here, _law_many): 0=_law_feed_here 1=_law_many 2=_law_found -/
def b8 : CSs :=
  (.cons (.ifS (.cmp .gt (.ix (.var 0) (.cst (.int 0))) (.cst (.int 0))) (.cons (.set 2 (.bin .mod (.ix (.var 0) (.cst (.int 0))) (.var 1)))
  (.cons (.setix 0 (.cst (.int 0)) (.bin .fdiv (.ix (.var 0) (.cst (.int 0))) (.var 1)))
  (.cons (.retv 2)
  .nil))) .nil)
  (.cons (.setix 0 (.cst (.int 1)) (.bin .mod (.bin .add (.bin .mul (.ix (.var 0) (.cst (.int 1))) (.cst (.int 48271))) (.cst (.int 12345))) (.cst (.int 2305843009213693951))))
  (.cons (.ret (.bin .mod (.bin .fdiv (.ix (.var 0) (.cst (.int 1))) (.cst (.int 2097152))) (.var 1)))
  .nil)))
def F8 : FD := ⟨2, 3, [0], b8⟩
/-- _law_pick(_law_feed_here, _law_some_here): 0=_law_feed_here 1=_law_some_here -/
def b9 : CSs :=
  (.cons (.ret (.ix (.var 1) (.call 8 [true, false] (.cons (.var 0) (.cons (.bi .len (.cons (.var 1) .nil)) .nil)))))
  .nil)
def F9 : FD := ⟨2, 2, [0], b9⟩
/-- _law_world(_law_feed_here): 0=_law_feed_here -/
def b10 : CSs :=
  (.cons (.ret (.call 9 [true, false] (.cons (.var 0) (.cons (.lst (.cons (.cst (.int 0)) (.cons (.cst (.int 0)) (.cons (.cst (.int 0)) (.cons (.cst (.int 2)) (.cons (.cst (.int 3)) (.cons (.cst (.int 5)) (.cons (.cst (.int 7)) (.cons (.cst (.int 11)) (.cons (.cst (.int 97)) .nil)))))))))) .nil))))
  .nil)
def F10 : FD := ⟨1, 1, [0], b10⟩
/-- _law_number(_law_feed_here): 0=_law_feed_here 1=_law_way -/
def b11 : CSs :=
  (.cons (.set 1 (.call 8 [true, false] (.cons (.var 0) (.cons (.cst (.int 6)) .nil))))
  (.cons (.ifS (.cmp .eq (.var 1) (.cst (.int 0))) (.cons (.ret (.bin .sub (.cst (.int 999999)) (.call 8 [true, false] (.cons (.var 0) (.cons (.cst (.int 1000)) .nil)))))
  .nil) .nil)
  (.cons (.ifS (.cmp .eq (.var 1) (.cst (.int 1))) (.cons (.ret (.bin .sub (.cst (.int 0)) (.call 8 [true, false] (.cons (.var 0) (.cons (.bin .pow (.cst (.int 10)) (.cst (.int 6))) .nil)))))
  .nil) .nil)
  (.cons (.ret (.bin .sub (.call 8 [true, false] (.cons (.var 0) (.cons (.cst (.int 13)) .nil))) (.cst (.int 4))))
  .nil))))
def F11 : FD := ⟨1, 2, [0], b11⟩
/-- _law_some(_law_feed_here, _law_below, _law_most, _law_without): 0=_law_feed_here 1=_law_below 2=_law_most 3=_law_without 4=_law_some_here 5=_law_k 6=_law_turn -/
def c0_12 : CE := (.lc [5] (.var 5) (.nm 5) (.rng1 (.var 1)) (.cons (.cmp .ne (.var 5) (.var 3)) .nil))
theorem wc0_12 (ρ : Rho) (t : Option (R × Rho)) : brw c0_12 ρ t = t.map fun p => (.v p.1, p.2) := rfl
def c1_12 : CE := (.lc [6] (.call 9 [true, false] (.cons (.var 0) (.cons (.var 4) .nil))) (.nm 6) (.rng1 (.call 8 [true, false] (.cons (.var 0) (.cons (.bin .add (.var 2) (.cst (.int 1))) .nil)))) .nil)
theorem wc1_12 (ρ : Rho) (t : Option (R × Rho)) : brw c1_12 ρ t = t.map fun p => (.v p.1, p.2) := rfl
def b12 : CSs :=
  (.cons (.set 4 c0_12)
  (.cons (.ifS (.cmp .eq (.var 4) (.lst .nil)) (.cons (.ret (.tup .nil))
  .nil) .nil)
  (.cons (.ret (.bi .tuple (.cons (.bi .sorted (.cons c1_12 .nil)) .nil)))
  .nil)))
def F12 : FD := ⟨4, 7, [0], b12⟩
/-- _law_row(_law_feed_here, _law_boxes, _law_inputs, _law_realm): 0=_law_feed_here 1=_law_boxes 2=_law_inputs 3=_law_realm 4=_law_to 5=_law_c 6=_law_most -/
def b13 : CSs :=
  (.cons (.set 4 (.call 8 [true, false] (.cons (.var 0) (.cons (.var 1) .nil))))
  (.cons (.ifS (.cmp .eq (.call 8 [true, false] (.cons (.var 0) (.cons (.cst (.int 6)) .nil))) (.cst (.int 0))) (.cons (.set 5 (.call 9 [true, false] (.cons (.var 0) (.cons (.lst (.cons (.cst (.int 1)) (.cons (.bin .sub (.cst (.int 0)) (.cst (.int 1))) .nil))) .nil))))
  (.cons (.ifS (.cmp .gt (.var 3) (.cst (.int 2))) (.cons (.set 5 (.bin .add (.bin .add (.cst (.int 1)) (.call 8 [true, false] (.cons (.var 0) (.cons (.bin .sub (.var 3) (.cst (.int 1))) .nil)))) (.bin .mul (.var 3) (.bin .sub (.call 8 [true, false] (.cons (.var 0) (.cons (.cst (.int 5)) .nil))) (.cst (.int 2))))))
  .nil) .nil)
  (.cons (.ret (.tup (.cons (.var 4) (.cons (.var 5) .nil))))
  .nil))) .nil)
  (.cons (.set 6 (.ite (.cmp .eq (.var 3) (.cst (.int 0))) (.cst (.int 1)) (.cst (.int 4))))
  (.cons (.ret (.tup (.cons (.var 4) (.cons (.call 11 [true] (.cons (.var 0) .nil)) (.cons (.call 12 [true, false, false, false] (.cons (.var 0) (.cons (.var 2) (.cons (.cst (.int 2)) (.cons (.bin .sub (.cst (.int 0)) (.cst (.int 1))) .nil))))) (.cons (.call 12 [true, false, false, false] (.cons (.var 0) (.cons (.var 1) (.cons (.var 6) (.cons (.var 4) .nil))))) .nil))))))
  .nil))))
def F13 : FD := ⟨4, 7, [0], b13⟩
/-- _law_program(_law_feed_here, _law_boxes, _law_inputs, _law_realm, _law_most): 0=_law_feed_here 1=_law_boxes 2=_law_inputs 3=_law_realm 4=_law_most 5=_law_turn -/
def c0_14 : CE := (.lc [5] (.call 13 [true, false, false, false] (.cons (.var 0) (.cons (.var 1) (.cons (.var 2) (.cons (.var 3) .nil))))) (.nm 5) (.rng1 (.call 8 [true, false] (.cons (.var 0) (.cons (.bin .add (.var 4) (.cst (.int 1))) .nil)))) .nil)
theorem wc0_14 (ρ : Rho) (t : Option (R × Rho)) : brw c0_14 ρ t = t.map fun p => (.v p.1, p.2) := rfl
def b14 : CSs :=
  (.cons (.ret c0_14)
  .nil)
def F14 : FD := ⟨5, 6, [0], b14⟩
/-- joined(one, other): 0=one 1=other 2=place -/
def c0_65 : CE := (.lc [2] (.ix (.var 1) (.var 2)) (.nm 2) (.val (.var 0)) .nil)
theorem wc0_65 (ρ : Rho) (t : Option (R × Rho)) : brw c0_65 ρ t = t.map fun p => (.v p.1, p.2) := rfl
def b65 : CSs :=
  (.cons (.ret (.bi .tuple (.cons c0_65 .nil)))
  .nil)
def F65 : FD := ⟨2, 3, [], b65⟩
/-- back_of(one): 0=one 1=place -/
def c0_66 : CE := (.lc [1] (.mt .index (.var 0) (.cons (.var 1) .nil)) (.nm 1) (.val (.glob 0 (.tuple [(.int 0), (.int 1), (.int 2), (.int 3), (.int 4)]))) .nil)
theorem wc0_66 (ρ : Rho) (t : Option (R × Rho)) : brw c0_66 ρ t = t.map fun p => (.v p.1, p.2) := rfl
def b66 : CSs :=
  (.cons (.ret (.bi .tuple (.cons c0_66 .nil)))
  .nil)
def F66 : FD := ⟨1, 2, [], b66⟩
/-- way_of(one): 0=one 1=found -/
def l0_67 : CS := (.whileS (.cmp .ne (.ix (.var 0) (.ix (.var 1) (.neg (.cst (.int 1))))) (.cst (.int 0))) (.cons (.exp (.mu .append 1 (.cons (.ix (.var 0) (.ix (.var 1) (.neg (.cst (.int 1))))) .nil)))
  .nil))
def b67 : CSs :=
  (.cons (.set 1 (.lst (.cons (.cst (.int 0)) .nil)))
  (.cons l0_67
  (.cons (.retv 1)
  .nil)))
def F67 : FD := ⟨1, 2, [], b67⟩
/-- is_ring(one): 0=one -/
def b68 : CSs :=
  (.cons (.ret (.cmp .eq (.bi .len (.cons (.call 67 [false] (.cons (.var 0) .nil)) .nil)) (.cst (.int 5))))
  .nil)
def F68 : FD := ⟨1, 1, [], b68⟩
/-- _law_ring(_law_feed_here): 0=_law_feed_here 1=_law_left 2=_law_way 3=_law_place 4=_law_found 5=_law_k -/
def c0_70 : CE := (.lc [3] (.mu .popAt 1 (.cons (.call 8 [true, false] (.cons (.var 0) (.cons (.bi .len (.cons (.var 1) .nil)) .nil))) .nil)) (.nm 3) (.rng1 (.cst (.int 4))) .nil)
theorem wc0_70 (ρ : Rho) (t : Option (R × Rho)) : brw c0_70 ρ t = t.map fun p => (.v p.1, p.2) := rfl
def l1_70 : CS := (.forS (.nm 5) (.rng1 (.cst (.int 5))) (.cons (.setix 4 (.ix (.var 2) (.var 5)) (.ix (.var 2) (.bin .mod (.bin .add (.var 5) (.cst (.int 1))) (.cst (.int 5)))))
  .nil))
def b70 : CSs :=
  (.cons (.set 1 (.lst (.cons (.cst (.int 1)) (.cons (.cst (.int 2)) (.cons (.cst (.int 3)) (.cons (.cst (.int 4)) .nil))))))
  (.cons (.set 2 (.bin .add (.lst (.cons (.cst (.int 0)) .nil)) c0_70))
  (.cons (.set 4 (.lst (.cons (.cst (.int 0)) (.cons (.cst (.int 0)) (.cons (.cst (.int 0)) (.cons (.cst (.int 0)) (.cons (.cst (.int 0)) .nil)))))))
  (.cons l1_70
  (.cons (.ret (.bi .tuple (.cons (.var 4) .nil)))
  .nil)))))
def F70 : FD := ⟨1, 6, [0], b70⟩
/-- _law_joined(_law_some): 0=_law_some 1=_law_found 2=_law_place 3=_law_one -/
def l0_71 : CS := (.forS (.nm 3) (.val (.var 0)) (.cons (.set 2 (.ix (.var 3) (.var 2)))
  .nil))
def l1_71 : CS := (.forS (.nm 2) (.rng1 (.cst (.int 5))) (.cons l0_71
  (.cons (.exp (.mu .append 1 (.cons (.var 2) .nil)))
  .nil)))
def b71 : CSs :=
  (.cons (.set 1 (.lst .nil))
  (.cons l1_71
  (.cons (.ret (.bi .tuple (.cons (.var 1) .nil)))
  .nil)))
def F71 : FD := ⟨1, 4, [], b71⟩
/-- ring_between(one, other): 0=one 1=other 2=places 3=place -/
def c0_84 : CE := (.lc [3] (.dix (.var 2) (.var 3)) (.nm 3) (.val (.glob 0 (.tuple [(.int 0), (.int 1), (.int 2), (.int 3), (.int 4)]))) .nil)
theorem wc0_84 (ρ : Rho) (t : Option (R × Rho)) : brw c0_84 ρ t = t.map fun p => (.v p.1, p.2) := rfl
def b84 : CSs :=
  (.cons (.set 2 (.dzip (.call 67 [false] (.cons (.var 1) .nil)) (.call 67 [false] (.cons (.var 0) .nil))))
  (.cons (.ret (.bi .tuple (.cons c0_84 .nil)))
  .nil))
def F84 : FD := ⟨2, 4, [], b84⟩
/-- turned_about(one, turning): 0=one 1=turning -/
def b85 : CSs :=
  (.cons (.ret (.call 65 [false, false] (.cons (.call 65 [false, false] (.cons (.var 1) (.cons (.var 0) .nil))) (.cons (.call 66 [false] (.cons (.var 1) .nil)) .nil))))
  .nil)
def F85 : FD := ⟨2, 2, [], b85⟩
/-- crossed(one, other): 0=one 1=other -/
def b86 : CSs :=
  (.cons (.ret (.call 65 [false, false] (.cons (.call 65 [false, false] (.cons (.var 0) (.cons (.var 1) .nil))) (.cons (.call 65 [false, false] (.cons (.call 66 [false] (.cons (.var 0) .nil)) (.cons (.call 66 [false] (.cons (.var 1) .nil)) .nil))) .nil))))
  .nil)
def F86 : FD := ⟨2, 2, [], b86⟩
/-- all_turnings(): 0=found 1=turn 2=some 3=place -/
def c0_87 : CE := (.lc2 [2, 3] [3] (.bin .add (.var 2) (.tup (.cons (.var 3) .nil))) (.nm 2) (.val (.var 0)) .nil (.nm 3) (.val (.glob 0 (.tuple [(.int 0), (.int 1), (.int 2), (.int 3), (.int 4)]))) (.cons (.cmp .notin (.var 3) (.var 2)) .nil))
theorem wc0_87 (ρ : Rho) (t : Option (R × Rho)) : brw c0_87 ρ t = t.map fun p => (.v p.1, p.2) := rfl
def l1_87 : CS := (.forS (.nm 1) (.val (.glob 0 (.tuple [(.int 0), (.int 1), (.int 2), (.int 3), (.int 4)]))) (.cons (.set 0 c0_87)
  .nil))
def b87 : CSs :=
  (.cons (.set 0 (.lst (.cons (.tup .nil) .nil)))
  (.cons l1_87
  (.cons (.retv 0)
  .nil)))
def F87 : FD := ⟨0, 4, [], b87⟩
/-- ring_parts(ring): 0=ring 1=first 2=second 3=turning -/
def l0_88 : CS := (.forS (.nm 2) (.val (.call 87 [] .nil)) (.cons (.ifS (.and (.call 68 [false] (.cons (.var 2) .nil)) (.call 68 [false] (.cons (.call 86 [false, false] (.cons (.var 1) (.cons (.var 2) .nil))) .nil))) (.cons (.set 3 (.call 84 [false, false] (.cons (.call 86 [false, false] (.cons (.var 1) (.cons (.var 2) .nil))) (.cons (.var 0) .nil))))
  (.cons (.ret (.tup (.cons (.call 85 [false, false] (.cons (.var 1) (.cons (.var 3) .nil))) (.cons (.call 85 [false, false] (.cons (.var 2) (.cons (.var 3) .nil))) .nil))))
  .nil)) .nil)
  .nil))
def b88 : CSs :=
  (.cons (.set 1 (.tup (.cons (.cst (.int 1)) (.cons (.cst (.int 2)) (.cons (.cst (.int 3)) (.cons (.cst (.int 4)) (.cons (.cst (.int 0)) .nil)))))))
  (.cons l0_88
  (.cons (.ret (.tup (.cons (.var 1) (.cons (.var 1) .nil))))
  .nil)))
def F88 : FD := ⟨1, 4, [], b88⟩
/-- _law_back(_law_one): 0=_law_one 1=_law_found 2=_law_place -/
def l0_116 : CS := (.forS (.nm 2) (.rng1 (.cst (.int 5))) (.cons (.setix 1 (.ix (.var 0) (.var 2)) (.var 2))
  .nil))
def b116 : CSs :=
  (.cons (.set 1 (.lst (.cons (.cst (.int 0)) (.cons (.cst (.int 0)) (.cons (.cst (.int 0)) (.cons (.cst (.int 0)) (.cons (.cst (.int 0)) .nil)))))))
  (.cons l0_116
  (.cons (.ret (.bi .tuple (.cons (.var 1) .nil)))
  .nil)))
def F116 : FD := ⟨1, 3, [], b116⟩
/-- _law_is_turning(_law_thing): 0=_law_thing -/
def b117 : CSs :=
  (.cons (.ret (.and (.isi .tuple (.var 0)) (.and (.cmp .eq (.bi .len (.cons (.var 0) .nil)) (.cst (.int 5))) (.cmp .eq (.bi .sorted (.cons (.var 0) .nil)) (.lst (.cons (.cst (.int 0)) (.cons (.cst (.int 1)) (.cons (.cst (.int 2)) (.cons (.cst (.int 3)) (.cons (.cst (.int 4)) .nil))))))))))
  .nil)
def F117 : FD := ⟨1, 1, [], b117⟩
/-- _law_is_ring(_law_one): 0=_law_one 1=_law_some -/
def l0_118 : CS := (.whileS (.cmp .notin (.ix (.var 0) (.ix (.var 1) (.neg (.cst (.int 1))))) (.var 1)) (.cons (.exp (.mu .append 1 (.cons (.ix (.var 0) (.ix (.var 1) (.neg (.cst (.int 1))))) .nil)))
  .nil))
def b118 : CSs :=
  (.cons (.ifS (.not (.call 117 [false] (.cons (.var 0) .nil))) (.cons (.ret (.cst (.bool false)))
  .nil) .nil)
  (.cons (.set 1 (.lst (.cons (.cst (.int 0)) .nil)))
  (.cons l0_118
  (.cons (.ret (.cmp .eq (.bi .len (.cons (.var 1) .nil)) (.cst (.int 5))))
  .nil))))
def F118 : FD := ⟨1, 2, [], b118⟩
/-- law(_law_script): 0=_law_script 1=_law_k 2=_law_feed_here 3=_law_one 4=_law_other 5=_law_turning 6=_law_ring_here 7=_law_told 8=_law_first 9=_law_second -/
def l0_119 : CS := (.forS (.nm 6) (.val (.tup (.cons (.var 3) (.cons (.var 4) .nil)))) (.cons (.set 7 (.call 88 [false] (.cons (.var 6) .nil)))
  (.cons (.ifS (.or (.not (.isi .tuple (.var 7))) (.cmp .ne (.bi .len (.cons (.var 7) .nil)) (.cst (.int 2)))) (.cons (.ret (.cst (.bool false)))
  .nil) .nil)
  (.cons (.asg (.tp (.cons (.nm 8) (.cons (.nm 9) .nil))) (.var 7))
  (.cons (.ifS (.or (.not (.call 118 [false] (.cons (.var 8) .nil))) (.not (.call 118 [false] (.cons (.var 9) .nil)))) (.cons (.ret (.cst (.bool false)))
  .nil) .nil)
  (.cons (.ifS (.cmp .ne (.call 71 [false] (.cons (.lst (.cons (.var 8) (.cons (.var 9) (.cons (.call 116 [false] (.cons (.var 8) .nil)) (.cons (.call 116 [false] (.cons (.var 9) .nil)) .nil))))) .nil)) (.var 6)) (.cons (.ret (.cst (.bool false)))
  .nil) .nil)
  .nil))))))
def l1_119 : CS := (.forS (.nm 1) (.rng1 (.bi .max2 (.cons (.cst (.int 1)) (.cons (.bi .min2 (.cons (.cst (.int 6)) (.cons (.slen 0) .nil))) .nil)))) (.cons (.set 2 (.call 7 [false, false] (.cons (.var 0) (.cons (.var 1) .nil))))
  (.cons (.par [3, 4] (.cons (.call 70 [true] (.cons (.var 2) .nil)) (.cons (.call 70 [true] (.cons (.var 2) .nil)) .nil)))
  (.cons (.set 5 (.call 84 [false, false] (.cons (.var 3) (.cons (.var 4) .nil))))
  (.cons (.ifS (.or (.not (.call 117 [false] (.cons (.var 5) .nil))) (.cmp .ne (.call 71 [false] (.cons (.lst (.cons (.var 5) (.cons (.var 3) (.cons (.call 116 [false] (.cons (.var 5) .nil)) .nil)))) .nil)) (.var 4))) (.cons (.ret (.cst (.bool false)))
  .nil) .nil)
  (.cons l0_119
  .nil))))))
def b119 : CSs :=
  (.cons l1_119
  (.cons (.ret (.cst (.bool true)))
  .nil))
def F119 : FD := ⟨1, 10, [], b119⟩
end DB

/-! S0: what data are good for repr and ==, loops by invariants, draws. -/
namespace DS
open PySem DI DB
/-! ### a def runs -/
theorem run_eq {T : Tab} {wf n i : Nat} {fd : FD} (h : T i = some fd) (args : List R) : DI.Run T wf (n + 1) i args = runF (DI.Run T wf n) wf fd args := by
  show (T i).bind _ = _
  rw [h]
  rfl
/-! ### good data -/
structure Fine (x : PyData) (dp bk : Nat) : Prop where
  lay : x.canLay0 = true
  sh : x.showable = true
  dep : x.depth ≤ dp
  blk : x.bulk ≤ bk
theorem Fine.mono {x : PyData} {d b d' b' : Nat} (h : Fine x d b) (h1 : d ≤ d') (h2 : b ≤ b') : Fine x d' b' := ⟨h.lay, h.sh, Nat.le_trans h.dep h1, Nat.le_trans h.blk h2⟩
theorem fine_int {i : Int} {d b : Nat} (h : i.natAbs.log2 < 1920) : Fine (.int i) d b := ⟨rfl, by simp [PyData.showable, h], by simp [PyData.depth], by simp [PyData.bulk]⟩
theorem fine_intB {i : Int} {d b : Nat} (h : i.natAbs < 2 ^ 1900) : Fine (.int i) d b := fine_int (by
  by_cases z : i.natAbs = 0
  · rw [z]; decide
  · exact Nat.lt_trans ((Nat.log2_lt z).mpr h) (by decide))
theorem fine_bool {x : Bool} {d b : Nat} : Fine (.bool x) d b := ⟨rfl, rfl, by simp [PyData.depth], by simp [PyData.bulk]⟩
theorem fine_none {d b : Nat} : Fine .none d b := ⟨rfl, rfl, by simp [PyData.depth], by simp [PyData.bulk]⟩
theorem fine_all {d b : Nat} : ∀ {xs : List PyData}, (∀ x ∈ xs, Fine x d b) → PyData.canLayAll0 xs = true ∧ PyData.showableAll xs = true ∧ PyData.depthAll xs ≤ d ∧ PyData.bulkAll xs ≤ xs.length * (b + 1)
  | [], _ => ⟨rfl, rfl, by simp [PyData.depthAll], by simp [PyData.bulkAll]⟩
  | x :: xs, h => by
    obtain ⟨a1, a2, a3, a4⟩ := fine_all (xs := xs) fun y hy => h y (List.mem_cons_of_mem _ hy)
    have hx := h x List.mem_cons_self
    refine ⟨by simp [PyData.canLayAll0, hx.lay, a1], by simp [PyData.showableAll, hx.sh, a2], ?_, ?_⟩
    · simp only [PyData.depthAll]
      have := hx.dep
      omega
    · simp only [PyData.bulkAll, List.length_cons, Nat.add_mul, Nat.one_mul]
      have := hx.blk
      omega
theorem fine_list {xs : List PyData} {d b B : Nat} (h : ∀ x ∈ xs, Fine x d b) (hB : xs.length * (b + 1) ≤ B) : Fine (.list xs) (d + 1) B := by
  obtain ⟨a1, a2, a3, a4⟩ := fine_all h
  exact ⟨by simp [PyData.canLay0, a1], by simp [PyData.showable, a2], by simp [PyData.depth, a3], by simp only [PyData.bulk]; omega⟩
theorem fine_tuple {xs : List PyData} {d b B : Nat} (h : ∀ x ∈ xs, Fine x d b) (hB : xs.length * (b + 1) ≤ B) : Fine (.tuple xs) (d + 1) B := by
  obtain ⟨a1, a2, a3, a4⟩ := fine_all h
  exact ⟨by simp [PyData.canLay0, a1], by simp [PyData.showable, a2], by simp [PyData.depth, a3], by simp only [PyData.bulk]; omega⟩
theorem fine_ints {ns : List Int} {d b : Nat} (h : ∀ n ∈ ns, n.natAbs < 2 ^ 1900) : ∀ x ∈ ns.map PyData.int, Fine x d b := fun x hx => by
  obtain ⟨n, hn, rfl⟩ := List.mem_map.mp hx
  exact fine_intB (h n hn)
mutual
theorem short_of : ∀ x : PyData, x.canLay0 = true → x.showable = true → x.intsShort 2000 = true
  | .none, _, _ => rfl
  | .bool _, _, _ => rfl
  | .str _, _, _ => rfl
  | .dict _, _, _ => rfl
  | .int i, _, h => by
    have h' : i.natAbs.log2 < 1920 := by simpa [PyData.showable] using h
    have e := int_text_length_le (k := 1920) (by decide) h'
    simp only [PyData.intsShort, decide_eq_true_eq]
    show (Str.ofString (toString i)).length ≤ 2000
    rw [ofString_length]
    omega
  | .list xs, h1, h2 => by
    simp only [PyData.intsShort]
    exact short_all xs (by simpa [PyData.canLay0] using h1) (by simpa [PyData.showable] using h2)
  | .tuple xs, h1, h2 => by
    simp only [PyData.intsShort]
    exact short_all xs (by simpa [PyData.canLay0] using h1) (by simpa [PyData.showable] using h2)
theorem short_all : ∀ xs : List PyData, PyData.canLayAll0 xs = true → PyData.showableAll xs = true → PyData.intsShortAll 2000 xs = true
  | [], _, _ => rfl
  | x :: xs, h1, h2 => by
    simp only [PyData.canLayAll0, PyData.showableAll, Bool.and_eq_true] at h1 h2
    simp [PyData.intsShortAll, short_of x h1.1 h2.1, short_all xs h1.2 h2.2]
end
mutual
theorem showX_of : ∀ x : PyData, x.canLay0 = true → x.showable = true → showX x = true
  | .none, _, _ => rfl
  | .bool _, _, _ => rfl
  | .str _, _, _ => rfl
  | .dict _, h, _ => by simp [PyData.canLay0] at h
  | .int i, _, h => by
    have h' : i.natAbs.log2 < 1920 := by simpa [PyData.showable] using h
    simp only [showX, decide_eq_true_eq]
    omega
  | .list xs, h1, h2 => by
    simp only [showX]
    exact showXs_of xs (by simpa [PyData.canLay0] using h1) (by simpa [PyData.showable] using h2)
  | .tuple xs, h1, h2 => by
    simp only [showX]
    exact showXs_of xs (by simpa [PyData.canLay0] using h1) (by simpa [PyData.showable] using h2)
theorem showXs_of : ∀ xs : List PyData, PyData.canLayAll0 xs = true → PyData.showableAll xs = true → showXs xs = true
  | [], _, _ => rfl
  | x :: xs, h1, h2 => by
    simp only [PyData.canLayAll0, PyData.showableAll, Bool.and_eq_true] at h1 h2
    simp [showXs, showX_of x h1.1 h2.1, showXs_of xs h1.2 h2.2]
end
theorem Fine.repr {x : PyData} {d b : Nat} (h : Fine x d b) (hd : d ≤ 60) (hb : b ≤ 7900) : biF .repr [x] = some (.d (.str x.shown)) := by
  have h1 := PyData.shown_le_bulk 2000 (by omega) x (PyData.leavesShort_of_canLay0 2000 x h.lay (short_of x h.lay h.sh))
  have h2 : (2000 + 2) * x.bulk ≤ 2002 * 7900 := Nat.mul_le_mul (by omega) (Nat.le_trans h.blk hb)
  have h3 := h.dep
  show (if _ then _ else _) = _
  rw [if_pos ⟨showX_of x h.lay h.sh, PyData.hasDict_of_canLay x h.lay, by omega, by unfold limLen; omega⟩]
theorem Fine.shaped {x : PyData} {d b : Nat} (h : Fine x d b) (hd : d ≤ 64) : SeqAt.shaped x = true := by
  unfold SeqAt.shaped
  rw [h.lay, Bool.true_and, decide_eq_true_iff]
  exact Nat.le_trans h.dep hd
theorem shaped_list {xs : List PyData} {d b : Nat} (h : ∀ x ∈ xs, Fine x d b) (hd : d ≤ 60) : SeqAt.shaped (.list xs) = true := by
  obtain ⟨a1, a2, a3, a4⟩ := fine_all h
  have e : (PyData.list xs).canLay0 = true := by simpa [PyData.canLay0] using a1
  have e2 : (PyData.list xs).depth ≤ 64 := by
    simp only [PyData.depth]
    omega
  unfold SeqAt.shaped
  rw [e, Bool.true_and, decide_eq_true_iff]
  exact e2
theorem filt_empty {p : PyData → Bool} : ∀ xs : List PyData, (xs.filterMap fun x => if p x = true then none else some x).isEmpty = xs.all p
  | [] => rfl
  | x :: xs => by
    rw [List.filterMap_cons, List.all_cons]
    cases h : p x with
    | true => simpa [h] using filt_empty xs
    | false => simp [h]
theorem fine_mem_list {xs : List PyData} {d b : Nat} (h : Fine (.list xs) (d + 1) b) {x : PyData} (hx : x ∈ xs) : Fine x d b := by
  have h1 := PyData.depth_le_depthAll xs x hx
  have h2 := h.dep
  have h3 := h.blk
  have key : ∀ ys : List PyData, x ∈ ys → PyData.showableAll ys = true → x.showable = true ∧ x.bulk ≤ PyData.bulkAll ys := by
    intro ys
    induction ys with
    | nil => intro h; cases h
    | cons y ys ih =>
      intro hm hs
      simp only [PyData.showableAll, Bool.and_eq_true] at hs
      rcases List.mem_cons.mp hm with rfl | hm
      · exact ⟨hs.1, by simp only [PyData.bulkAll]; omega⟩
      · obtain ⟨a, c⟩ := ih hm hs.2
        exact ⟨a, by simp only [PyData.bulkAll]; omega⟩
  obtain ⟨k1, k2⟩ := key xs hx (by simpa [PyData.showable] using h.sh)
  simp only [PyData.depth] at h2
  simp only [PyData.bulk] at h3
  exact ⟨PyData.canLay0_of_mem xs x (by simpa [PyData.canLay0] using h.lay) hx, k1, by omega, by omega⟩
theorem fine_mem_tuple {xs : List PyData} {d b : Nat} (h : Fine (.tuple xs) (d + 1) b) {x : PyData} (hx : x ∈ xs) : Fine x d b :=
  fine_mem_list (xs := xs) ⟨by simpa [PyData.canLay0] using h.lay, by simpa [PyData.showable] using h.sh, by simpa [PyData.depth] using h.dep, by simpa [PyData.bulk] using h.blk⟩ hx
/-! ### == -/
mutual
theorem eqv_same : ∀ x : PyData, x.canLay0 = true → PyData.eqv x x = true
  | .none, _ => rfl
  | .bool b, _ => by simp [PyData.eqv]
  | .int i, _ => by simp [PyData.eqv]
  | .str x, _ => by simp [PyData.eqv]
  | .list xs, h => by
    simp only [PyData.eqv]
    exact eqvAll_same xs (by simpa [PyData.canLay0] using h)
  | .tuple xs, h => by
    simp only [PyData.eqv]
    exact eqvAll_same xs (by simpa [PyData.canLay0] using h)
  | .dict _, h => by simp [PyData.canLay0] at h
theorem eqvAll_same : ∀ xs : List PyData, PyData.canLayAll0 xs = true → PyData.eqvAll xs xs = true
  | [], _ => rfl
  | x :: xs, h => by
    simp only [PyData.canLayAll0, Bool.and_eq_true] at h
    simp [PyData.eqvAll, eqv_same x h.1, eqvAll_same xs h.2]
end
theorem eqvAll_ints : ∀ a b : List Int, PyData.eqvAll (a.map .int) (b.map .int) = decide (a = b)
  | [], [] => rfl
  | [], _ :: _ => rfl
  | _ :: _, [] => rfl
  | x :: a, y :: b => by
    simp only [List.map_cons, PyData.eqvAll, PyData.eqv, eqvAll_ints a b, List.cons.injEq, Bool.decide_and]
    rfl
theorem eqv_nil (xs : List PyData) : PyData.eqv (.list xs) (.list []) = xs.isEmpty := by
  cases xs <;> rfl
theorem cmpEq_of {x y : PyData} {b : Bool} (hx : SeqAt.shaped x = true) (hy : SeqAt.shaped y = true) (h : PyData.eqv x y = b) : cmpEq x y = some b := by
  unfold cmpEq
  split
  · rename_i a c
    have e : PyData.eqv (.str a) (.str c) = decide (a = c) := by
      show (a == c) = _
      by_cases z : a = c
      · subst z; simp
      · rw [decide_eq_false z]; simpa using z
    rw [← h, e]
  · rw [if_pos ⟨hx, hy⟩, h]
theorem cmp_strs (s : Str) : cmp .ne (.str s) (.str s) = some false := by simp [cmp, cmpEq]
theorem cmp_str_eq (s : Str) : cmp .eq (.str s) (.str s) = some true := by simp [cmp, cmpEq]
/-! ### loops -/
section
variable {xs : List PyData} {f : PyData → Rho → Option (Option PyData × Rho)} {g : PyData → Rho → Option (Fl × Rho)}
/-- a comprehension whose turns all give something -/
theorem lcL_inv (P : Rho → Prop) (Q : PyData → Prop) (h : ∀ x ∈ xs, ∀ ρ, P ρ → ∃ y ρ', f x ρ = some (some y, ρ') ∧ P ρ' ∧ Q y) : ∀ {ρ : Rho}, P ρ → ∃ ys ρ', lcL f xs ρ = some (ys, ρ') ∧ P ρ' ∧ (∀ y ∈ ys, Q y) ∧ ys.length = xs.length := by
  induction xs with
  | nil => exact fun {ρ} p => ⟨[], ρ, rfl, p, by simp, rfl⟩
  | cons x xs ih =>
    intro ρ p
    obtain ⟨y, ρ1, h1, p1, q1⟩ := h x List.mem_cons_self ρ p
    obtain ⟨ys, ρ2, h2, p2, q2, l2⟩ := ih (fun x hx => h x (List.mem_cons_of_mem _ hx)) p1
    exact ⟨y :: ys, ρ2, lcL_yes h1 h2, p2, fun z hz => (List.mem_cons.mp hz).elim (fun e => e ▸ q1) (q2 z), by simp [l2]⟩
/-- a for that goes on or returns by a test -/
theorem forL_dec (P : Rho → Prop) (p : PyData → Bool) (r : R) (h : ∀ x ∈ xs, ∀ ρ, P ρ → (p x = true → ∃ ρ', g x ρ = some (.nx, ρ') ∧ P ρ') ∧ (p x = false → ∃ ρ', g x ρ = some (.rt r, ρ') ∧ P ρ')) : ∀ {ρ : Rho}, P ρ →
    (xs.all p = true → ∃ ρ', forL g xs ρ = some (.nx, ρ') ∧ P ρ') ∧ (xs.all p = false → ∃ ρ', forL g xs ρ = some (.rt r, ρ') ∧ P ρ') := by
  induction xs with
  | nil => exact fun {ρ} q => ⟨fun _ => ⟨ρ, rfl, q⟩, fun h => by simp at h⟩
  | cons x xs ih =>
    intro ρ q
    obtain ⟨h1, h2⟩ := h x List.mem_cons_self ρ q
    rw [List.all_cons]
    cases e : p x with
    | true =>
      obtain ⟨ρ1, e1, q1⟩ := h1 e
      obtain ⟨i1, i2⟩ := ih (fun x hx => h x (List.mem_cons_of_mem _ hx)) q1
      simp only [Bool.true_and]
      exact ⟨fun a => (i1 a).elim fun ρ2 ⟨a1, a2⟩ => ⟨ρ2, forL_nx e1 a1, a2⟩, fun a => (i2 a).elim fun ρ2 ⟨a1, a2⟩ => ⟨ρ2, forL_nx e1 a1, a2⟩⟩
    | false =>
      obtain ⟨ρ1, e1, q1⟩ := h2 e
      exact ⟨fun a => by simp at a, fun _ => ⟨ρ1, forL_rt e1, q1⟩⟩
end
/-- a for that always goes on, the turns counted -/
theorem forL_cnt {xs : List PyData} {g : PyData → Rho → Option (Fl × Rho)} (P : Nat → Rho → Prop) : ∀ (j : Nat), (∀ k x, xs[k]? = some x → ∀ ρ, P (j + k) ρ → ∃ ρ', g x ρ = some (.nx, ρ') ∧ P (j + k + 1) ρ') → ∀ {ρ : Rho}, P j ρ → ∃ ρ', forL g xs ρ = some (.nx, ρ') ∧ P (j + xs.length) ρ' := by
  induction xs with
  | nil => exact fun j _ {ρ} p => ⟨ρ, rfl, p⟩
  | cons x xs ih =>
    intro j h ρ p
    obtain ⟨ρ1, h1, p1⟩ := h 0 x rfl ρ p
    obtain ⟨ρ2, h2, p2⟩ := ih (j + 1) (fun k y hy ρ q => by
      have := h (k + 1) y (by simpa using hy) ρ (by rw [show j + (k + 1) = j + 1 + k by omega]; exact q)
      rw [show j + (k + 1) + 1 = j + 1 + k + 1 by omega] at this
      exact this) p1
    exact ⟨ρ2, forL_nx h1 h2, by rw [List.length_cons, show j + (xs.length + 1) = j + 1 + xs.length by omega]; exact p2⟩
theorem fine_iff {x : PyData} {d b : Nat} : Fine x d b ↔ x.canLay0 = true ∧ x.showable = true ∧ x.depth ≤ d ∧ x.bulk ≤ b := ⟨fun h => ⟨h.lay, h.sh, h.dep, h.blk⟩, fun ⟨a, b, c, d⟩ => ⟨a, b, c, d⟩⟩
theorem mem_cut {xs : List PyData} {lo hi : Option Int} {x : PyData} (h : x ∈ cutD xs lo hi) : x ∈ xs := List.mem_of_mem_drop (List.mem_of_mem_take h)
theorem len_cut {xs : List PyData} {lo hi : Option Int} : (cutD xs lo hi).length ≤ xs.length := by
  unfold cutD
  rw [List.length_take, List.length_drop]
  omega
/-! ### the draws -/
abbrev feedR (a b : Int) : R := .l [.int a, .int b]
theorem log_small {m : Int} (h1 : 0 < m) (h2 : m ≤ 10 ^ 40) : m.natAbs.log2 < 9000 := by
  have h : m.natAbs.log2 < 140 := (Nat.log2_lt (by omega)).mpr (by omega)
  omega
def TakeOk (Φ : Phi) : Prop := ∀ a b m : Int, 0 < m → m ≤ 10 ^ 40 → ∃ r a' b', 0 ≤ r ∧ r < m ∧ Φ 8 [feedR a b, .d (.int m)] = some (.d (.int r), [feedR a' b', .d (.int m)])
set_option maxHeartbeats 1000000 in
theorem takeOk {T : Tab} {wf n : Nat} (hT : T 8 = some F8) : TakeOk (DI.Run T wf (n + 1)) := by
  intro a b m h1 h2
  have hl := log_small h1 h2
  by_cases ha : 0 < a
  · refine ⟨a % m, a / m, b, Int.emod_nonneg _ (by omega), Int.emod_lt_of_pos _ h1, ?_⟩
    rw [run_eq hT]
    simp [F8, b8, ha, h1, hl, runF, lentR, exs, ex, ev, evT, evs, evb, eva, evr, evTs, evI, evC, bw_var, bw_cst, bw_glob, bw_bin, bw_neg, bw_cmp, bw_chain, bw_and, bw_or, bw_not, bw_ite, bw_tup, bw_lst, bw_call, bw_callK, pick, bw_bi, bw_isi, bw_mu, bw_mt, bw_ix, bw_sl, bw_rev, bw_slen, bw_six, bw_lc, bw_lc2, bw_sset, bw_cp, bw_maxd, bw_dsp, bw_dget, bw_dix, bw_dzip, bw_gget, bw_gix, bw_ch3, bw_rpr, kOf, gt, rd, rds, ra, ras, toD_d, toD_l, toD_s, toD_k, frz_d, frz_l, frz_s, frz_k, tru_bool, tru_int, tru_none, tru_list, tru_tuple, bin_add_int, bin_add_list, bin_add_tuple, bin_add_str, bin_sub_int, bin_mul_int, bin_mul_list, bin_mul_tuple, bin_fdiv_int, bin_mod_int, bin_pow_int, cmp_eq_int, cmp_ne_int, cmp_lt, cmp_le, cmp_gt, cmp_ge, cmp_isin, cmp_notin, cmp_is, cmp_isnot, cmpLt_int, cmpLe_int, isD_none, isD_bool, isNone, bi_len_list, bi_len_tuple, bi_abs, bi_max2, bi_min2, bi_sum, bi_all, bi_any, bi_list_list, bi_list_tuple, bi_tuple_list, bi_tuple_tuple, bi_sorted_list, bi_sorted_tuple, bi_int_int, bi_int_bool, bi_maxL, bi_minL, items_list, items_tuple, intsD, isT, mu_append, mu_pop, mu_extend, DI.ix_list, DI.ix_tuple, DI.sl_list, DI.sl_tuple, partI, cutD, HT.sIx, atI_0, atI_1, atI_2, atI_3, L2.ixN, setS, bt_nm, bt_tp_tuple, bt_tp_list, bt_stp, bt_stp_list, bts_nil, bts_cons, CTs.len, lcL, lcC, forL, iter_list, iter_tuple, wipeR, restoreR, wb, outR, retR, setPar, Arg.slot?, notTS, limLen, kindOf, List.filterMap_cons, List.filterMap_nil]
  · refine ⟨(b * 48271 + 12345) % 2305843009213693951 / 2097152 % m, a, (b * 48271 + 12345) % 2305843009213693951, Int.emod_nonneg _ (by omega), Int.emod_lt_of_pos _ h1, ?_⟩
    have h21 : Nat.log2 2097152 < 9000 := by decide +kernel
    rw [run_eq hT]
    simp [F8, b8, ha, h1, hl, h21, mulOk, m64, runF, lentR, exs, ex, ev, evT, evs, evb, eva, evr, evTs, evI, evC, bw_var, bw_cst, bw_glob, bw_bin, bw_neg, bw_cmp, bw_chain, bw_and, bw_or, bw_not, bw_ite, bw_tup, bw_lst, bw_call, bw_callK, pick, bw_bi, bw_isi, bw_mu, bw_mt, bw_ix, bw_sl, bw_rev, bw_slen, bw_six, bw_lc, bw_lc2, bw_sset, bw_cp, bw_maxd, bw_dsp, bw_dget, bw_dix, bw_dzip, bw_gget, bw_gix, bw_ch3, bw_rpr, kOf, gt, rd, rds, ra, ras, toD_d, toD_l, toD_s, toD_k, frz_d, frz_l, frz_s, frz_k, tru_bool, tru_int, tru_none, tru_list, tru_tuple, bin_add_int, bin_add_list, bin_add_tuple, bin_add_str, bin_sub_int, bin_mul_int, bin_mul_list, bin_mul_tuple, bin_fdiv_int, bin_mod_int, bin_pow_int, cmp_eq_int, cmp_ne_int, cmp_lt, cmp_le, cmp_gt, cmp_ge, cmp_isin, cmp_notin, cmp_is, cmp_isnot, cmpLt_int, cmpLe_int, isD_none, isD_bool, isNone, bi_len_list, bi_len_tuple, bi_abs, bi_max2, bi_min2, bi_sum, bi_all, bi_any, bi_list_list, bi_list_tuple, bi_tuple_list, bi_tuple_tuple, bi_sorted_list, bi_sorted_tuple, bi_int_int, bi_int_bool, bi_maxL, bi_minL, items_list, items_tuple, intsD, isT, mu_append, mu_pop, mu_extend, DI.ix_list, DI.ix_tuple, DI.sl_list, DI.sl_tuple, partI, cutD, HT.sIx, atI_0, atI_1, atI_2, atI_3, L2.ixN, setS, bt_nm, bt_tp_tuple, bt_tp_list, bt_stp, bt_stp_list, bts_nil, bts_cons, CTs.len, lcL, lcC, forL, iter_list, iter_tuple, wipeR, restoreR, wb, outR, retR, setPar, Arg.slot?, notTS, limLen, kindOf, List.filterMap_cons, List.filterMap_nil]
theorem seqI (r : Int) (n : Nat) (h1 : 0 ≤ r) (h2 : r < n) : seqIndex? r n = some r.toNat := by
  unfold seqIndex?
  simp [h1, h2]
  omega
def PickOk (Φ : Phi) : Prop := ∀ (a b : Int) (xs : List PyData), xs ≠ [] → xs.length ≤ 10 ^ 6 → ∃ x ∈ xs, ∃ (a' b' : Int), Φ 9 [feedR a b, .d (.list xs)] = some (.d x, [feedR a' b', .d (.list xs)])
theorem pickOk {T : Tab} {wf n : Nat} (h8 : T 8 = some F8) (h9 : T 9 = some F9) : PickOk (DI.Run T wf (n + 2)) := by
  intro a b xs hne hlen
  have hpos : 0 < xs.length := by cases xs with
    | nil => exact absurd rfl hne
    | cons _ _ => simp
  obtain ⟨r, a', b', r0, r1, h⟩ := takeOk (wf := wf) (n := n) h8 a b xs.length (by omega) (by omega)
  have hj : r.toNat < xs.length := by omega
  refine ⟨xs[r.toNat], List.getElem_mem hj, a', b', ?_⟩
  have hs := seqI r xs.length r0 r1
  rw [run_eq h9]
  simp [F9, b9, h, hs, hj, r0, r1, L2.atI, runF, lentR, exs, ex, ev, evT, evs, evb, eva, evr, evTs, evI, evC, bw_var, bw_cst, bw_glob, bw_bin, bw_neg, bw_cmp, bw_chain, bw_and, bw_or, bw_not, bw_ite, bw_tup, bw_lst, bw_call, bw_callK, pick, bw_bi, bw_isi, bw_mu, bw_mt, bw_ix, bw_sl, bw_rev, bw_slen, bw_six, bw_lc, bw_lc2, bw_sset, bw_cp, bw_maxd, bw_dsp, bw_dget, bw_dix, bw_dzip, bw_gget, bw_gix, bw_ch3, bw_rpr, kOf, gt, rd, rds, ra, ras, toD_d, toD_l, toD_s, toD_k, frz_d, frz_l, frz_s, frz_k, tru_bool, tru_int, tru_none, tru_list, tru_tuple, bin_add_int, bin_add_list, bin_add_tuple, bin_add_str, bin_sub_int, bin_mul_int, bin_mul_list, bin_mul_tuple, bin_fdiv_int, bin_mod_int, bin_pow_int, cmp_eq_int, cmp_ne_int, cmp_lt, cmp_le, cmp_gt, cmp_ge, cmp_isin, cmp_notin, cmp_is, cmp_isnot, cmpLt_int, cmpLe_int, isD_none, isD_bool, isNone, bi_len_list, bi_len_tuple, bi_abs, bi_max2, bi_min2, bi_sum, bi_all, bi_any, bi_list_list, bi_list_tuple, bi_tuple_list, bi_tuple_tuple, bi_sorted_list, bi_sorted_tuple, bi_int_int, bi_int_bool, bi_maxL, bi_minL, items_list, items_tuple, intsD, isT, mu_append, mu_pop, mu_extend, DI.ix_list, DI.ix_tuple, DI.sl_list, DI.sl_tuple, partI, cutD, HT.sIx, atI_0, atI_1, atI_2, atI_3, L2.ixN, setS, bt_nm, bt_tp_tuple, bt_tp_list, bt_stp, bt_stp_list, bts_nil, bts_cons, CTs.len, lcL, lcC, forL, iter_list, iter_tuple, wipeR, restoreR, wb, outR, retR, setPar, Arg.slot?, notTS, limLen, kindOf, List.filterMap_cons, List.filterMap_nil]
def FeedOk (Φ : Phi) : Prop := ∀ (ns : List Int) (k : Nat), k < 1000 → ∃ a b, Φ 7 [scr ns, .d (.int (k : Nat))] = some (feedR a b, [scr ns, .d (.int (k : Nat))])
set_option maxHeartbeats 1000000 in
theorem feedOk {T : Tab} {wf n : Nat} (hT : T 7 = some F7) : FeedOk (DI.Run T wf (n + 1)) := by
  intro ns k hk
  rw [run_eq hT]
  have hk2 : ((k : Nat) : Int) < 18446744073709551616 := by omega
  have hk3 : (-18446744073709551616 : Int) < ((k : Nat) : Int) := by omega
  have key : ∀ one : Int, ∃ a b, ((exs (DI.Run T wf n) wf [] (.cons (.set 3 (.cst (.int 0))) (.cons (.ifS (.cmp .ge (.bi .abs (.cons (.var 2) .nil)) (.bin .pow (.cst (.int 10)) (.cst (.int 18)))) (.cons (.set 3 (.bin .sub (.bi .abs (.cons (.var 2) .nil)) (.bin .pow (.cst (.int 10)) (.cst (.int 18))))) .nil) .nil)
      (.cons (.ret (.lst (.cons (.var 3) (.cons (.bin .mod (.bin .add (.bin .add (.bin .mul (.var 2) (.cst (.int 6364136223846793005))) (.bin .mul (.cst (.int 7919)) (.var 1))) (.cst (.int 1442695040888963407))) (.cst (.int 2305843009213693951))) .nil)))) .nil))) [some (scr ns), some (.d (.int (k : Nat))), some (.d (.int one)), none]).bind fun p =>
      (retR p.1).bind fun r => (outR [] p.2 0 [scr ns, .d (.int (k : Nat))]).map fun os => (r, os)) = some (feedR a b, [scr ns, .d (.int (k : Nat))]) := by
    intro one
    by_cases hb : (1000000000000000000 : Int) ≤ (if one < 0 then -one else one)
    · refine ⟨(if one < 0 then -one else one) - 1000000000000000000, (one * 6364136223846793005 + 7919 * (k : Nat) + 1442695040888963407) % 2305843009213693951, ?_⟩
      simp [scr, hb, mulOk, m64, hk2, hk3, runF, lentR, exs, ex, ev, evT, evs, evb, eva, evr, evTs, evI, evC, bw_var, bw_cst, bw_glob, bw_bin, bw_neg, bw_cmp, bw_chain, bw_and, bw_or, bw_not, bw_ite, bw_tup, bw_lst, bw_call, bw_callK, pick, bw_bi, bw_isi, bw_mu, bw_mt, bw_ix, bw_sl, bw_rev, bw_slen, bw_six, bw_lc, bw_lc2, bw_sset, bw_cp, bw_maxd, bw_dsp, bw_dget, bw_dix, bw_dzip, bw_gget, bw_gix, bw_ch3, bw_rpr, kOf, gt, rd, rds, ra, ras, toD_d, toD_l, toD_s, toD_k, frz_d, frz_l, frz_s, frz_k, tru_bool, tru_int, tru_none, tru_list, tru_tuple, bin_add_int, bin_add_list, bin_add_tuple, bin_add_str, bin_sub_int, bin_mul_int, bin_mul_list, bin_mul_tuple, bin_fdiv_int, bin_mod_int, bin_pow_int, cmp_eq_int, cmp_ne_int, cmp_lt, cmp_le, cmp_gt, cmp_ge, cmp_isin, cmp_notin, cmp_is, cmp_isnot, cmpLt_int, cmpLe_int, isD_none, isD_bool, isNone, bi_len_list, bi_len_tuple, bi_abs, bi_max2, bi_min2, bi_sum, bi_all, bi_any, bi_list_list, bi_list_tuple, bi_tuple_list, bi_tuple_tuple, bi_sorted_list, bi_sorted_tuple, bi_int_int, bi_int_bool, bi_maxL, bi_minL, items_list, items_tuple, intsD, isT, mu_append, mu_pop, mu_extend, DI.ix_list, DI.ix_tuple, DI.sl_list, DI.sl_tuple, partI, cutD, HT.sIx, atI_0, atI_1, atI_2, atI_3, L2.ixN, setS, bt_nm, bt_tp_tuple, bt_tp_list, bt_stp, bt_stp_list, bts_nil, bts_cons, CTs.len, lcL, lcC, forL, iter_list, iter_tuple, wipeR, restoreR, wb, outR, retR, setPar, Arg.slot?, notTS, limLen, kindOf, List.filterMap_cons, List.filterMap_nil]
    · refine ⟨0, (one * 6364136223846793005 + 7919 * (k : Nat) + 1442695040888963407) % 2305843009213693951, ?_⟩
      simp [scr, hb, mulOk, m64, hk2, hk3, runF, lentR, exs, ex, ev, evT, evs, evb, eva, evr, evTs, evI, evC, bw_var, bw_cst, bw_glob, bw_bin, bw_neg, bw_cmp, bw_chain, bw_and, bw_or, bw_not, bw_ite, bw_tup, bw_lst, bw_call, bw_callK, pick, bw_bi, bw_isi, bw_mu, bw_mt, bw_ix, bw_sl, bw_rev, bw_slen, bw_six, bw_lc, bw_lc2, bw_sset, bw_cp, bw_maxd, bw_dsp, bw_dget, bw_dix, bw_dzip, bw_gget, bw_gix, bw_ch3, bw_rpr, kOf, gt, rd, rds, ra, ras, toD_d, toD_l, toD_s, toD_k, frz_d, frz_l, frz_s, frz_k, tru_bool, tru_int, tru_none, tru_list, tru_tuple, bin_add_int, bin_add_list, bin_add_tuple, bin_add_str, bin_sub_int, bin_mul_int, bin_mul_list, bin_mul_tuple, bin_fdiv_int, bin_mod_int, bin_pow_int, cmp_eq_int, cmp_ne_int, cmp_lt, cmp_le, cmp_gt, cmp_ge, cmp_isin, cmp_notin, cmp_is, cmp_isnot, cmpLt_int, cmpLe_int, isD_none, isD_bool, isNone, bi_len_list, bi_len_tuple, bi_abs, bi_max2, bi_min2, bi_sum, bi_all, bi_any, bi_list_list, bi_list_tuple, bi_tuple_list, bi_tuple_tuple, bi_sorted_list, bi_sorted_tuple, bi_int_int, bi_int_bool, bi_maxL, bi_minL, items_list, items_tuple, intsD, isT, mu_append, mu_pop, mu_extend, DI.ix_list, DI.ix_tuple, DI.sl_list, DI.sl_tuple, partI, cutD, HT.sIx, atI_0, atI_1, atI_2, atI_3, L2.ixN, setS, bt_nm, bt_tp_tuple, bt_tp_list, bt_stp, bt_stp_list, bts_nil, bts_cons, CTs.len, lcL, lcC, forL, iter_list, iter_tuple, wipeR, restoreR, wb, outR, retR, setPar, Arg.slot?, notTS, limLen, kindOf, List.filterMap_cons, List.filterMap_nil]
  by_cases h : k < ns.length
  · obtain ⟨a, b, e⟩ := key ns[k]
    refine ⟨a, b, ?_⟩
    rw [← e]
    simp [scr, F7, b7, h, L2.atI, mulOk, m64, hk2, hk3, runF, lentR, exs, ex, ev, evT, evs, evb, eva, evr, evTs, evI, evC, bw_var, bw_cst, bw_glob, bw_bin, bw_neg, bw_cmp, bw_chain, bw_and, bw_or, bw_not, bw_ite, bw_tup, bw_lst, bw_call, bw_callK, pick, bw_bi, bw_isi, bw_mu, bw_mt, bw_ix, bw_sl, bw_rev, bw_slen, bw_six, bw_lc, bw_lc2, bw_sset, bw_cp, bw_maxd, bw_dsp, bw_dget, bw_dix, bw_dzip, bw_gget, bw_gix, bw_ch3, bw_rpr, kOf, gt, rd, rds, ra, ras, toD_d, toD_l, toD_s, toD_k, frz_d, frz_l, frz_s, frz_k, tru_bool, tru_int, tru_none, tru_list, tru_tuple, bin_add_int, bin_add_list, bin_add_tuple, bin_add_str, bin_sub_int, bin_mul_int, bin_mul_list, bin_mul_tuple, bin_fdiv_int, bin_mod_int, bin_pow_int, cmp_eq_int, cmp_ne_int, cmp_lt, cmp_le, cmp_gt, cmp_ge, cmp_isin, cmp_notin, cmp_is, cmp_isnot, cmpLt_int, cmpLe_int, isD_none, isD_bool, isNone, bi_len_list, bi_len_tuple, bi_abs, bi_max2, bi_min2, bi_sum, bi_all, bi_any, bi_list_list, bi_list_tuple, bi_tuple_list, bi_tuple_tuple, bi_sorted_list, bi_sorted_tuple, bi_int_int, bi_int_bool, bi_maxL, bi_minL, items_list, items_tuple, intsD, isT, mu_append, mu_pop, mu_extend, DI.ix_list, DI.ix_tuple, DI.sl_list, DI.sl_tuple, partI, cutD, HT.sIx, atI_0, atI_1, atI_2, atI_3, L2.ixN, setS, bt_nm, bt_tp_tuple, bt_tp_list, bt_stp, bt_stp_list, bts_nil, bts_cons, CTs.len, lcL, lcC, forL, iter_list, iter_tuple, wipeR, restoreR, wb, outR, retR, setPar, Arg.slot?, notTS, limLen, kindOf, List.filterMap_cons, List.filterMap_nil]
  · obtain ⟨a, b, e⟩ := key (83 * (k : Nat) + 29)
    refine ⟨a, b, ?_⟩
    rw [← e]
    simp [scr, F7, b7, h, L2.atI, mulOk, m64, hk2, hk3, runF, lentR, exs, ex, ev, evT, evs, evb, eva, evr, evTs, evI, evC, bw_var, bw_cst, bw_glob, bw_bin, bw_neg, bw_cmp, bw_chain, bw_and, bw_or, bw_not, bw_ite, bw_tup, bw_lst, bw_call, bw_callK, pick, bw_bi, bw_isi, bw_mu, bw_mt, bw_ix, bw_sl, bw_rev, bw_slen, bw_six, bw_lc, bw_lc2, bw_sset, bw_cp, bw_maxd, bw_dsp, bw_dget, bw_dix, bw_dzip, bw_gget, bw_gix, bw_ch3, bw_rpr, kOf, gt, rd, rds, ra, ras, toD_d, toD_l, toD_s, toD_k, frz_d, frz_l, frz_s, frz_k, tru_bool, tru_int, tru_none, tru_list, tru_tuple, bin_add_int, bin_add_list, bin_add_tuple, bin_add_str, bin_sub_int, bin_mul_int, bin_mul_list, bin_mul_tuple, bin_fdiv_int, bin_mod_int, bin_pow_int, cmp_eq_int, cmp_ne_int, cmp_lt, cmp_le, cmp_gt, cmp_ge, cmp_isin, cmp_notin, cmp_is, cmp_isnot, cmpLt_int, cmpLe_int, isD_none, isD_bool, isNone, bi_len_list, bi_len_tuple, bi_abs, bi_max2, bi_min2, bi_sum, bi_all, bi_any, bi_list_list, bi_list_tuple, bi_tuple_list, bi_tuple_tuple, bi_sorted_list, bi_sorted_tuple, bi_int_int, bi_int_bool, bi_maxL, bi_minL, items_list, items_tuple, intsD, isT, mu_append, mu_pop, mu_extend, DI.ix_list, DI.ix_tuple, DI.sl_list, DI.sl_tuple, partI, cutD, HT.sIx, atI_0, atI_1, atI_2, atI_3, L2.ixN, setS, bt_nm, bt_tp_tuple, bt_tp_list, bt_stp, bt_stp_list, bts_nil, bts_cons, CTs.len, lcL, lcC, forL, iter_list, iter_tuple, wipeR, restoreR, wb, outR, retR, setPar, Arg.slot?, notTS, limLen, kindOf, List.filterMap_cons, List.filterMap_nil]
/-- how many turns a law's loop over the cells has -/
theorem rng_script (Φ : Phi) (ns : List Int) (rest : Rho) (lo hi : Int) (h0 : 0 ≤ lo) (h1 : lo ≤ hi) (h2 : hi ≤ 1000) : ∃ m : Nat, m ≤ 1000 ∧ evI Φ (.rng1 (.bi .max2 (.cons (.cst (.int lo)) (.cons (.bi .min2 (.cons (.cst (.int hi)) (.cons (.slen 0) .nil))) .nil)))) (some (scr ns) :: rest) = some ((List.range m).map fun (i : Nat) => .int (i : Int), some (scr ns) :: rest) := by
  let m1 : Int := if (ns.length : Int) < hi then ns.length else hi
  let m : Int := if m1 > lo then m1 else lo
  have hm1 : m1 ≤ hi := by simp only [m1]; split <;> omega
  have hm : m ≤ 1000 ∧ 0 ≤ m := by simp only [m]; split <;> omega
  obtain ⟨q, hq⟩ : ∃ q : Nat, m = q := ⟨m.toNat, by omega⟩
  have hs : smallI (q : Nat) = true := by
    have q1 : ((q : Nat) : Int) ≤ 1000 := by omega
    have q0 : (0 : Int) ≤ (q : Nat) := by omega
    generalize ((q : Nat) : Int) = z at q1 q0
    unfold smallI
    rw [Bool.and_eq_true, decide_eq_true_iff, decide_eq_true_iff]
    exact ⟨Int.le_trans (by decide) q0, Int.lt_of_le_of_lt q1 (by decide)⟩
  have hr : rangeD 0 m = some ((List.range q).map fun (i : Nat) => .int (i : Int)) := by
    rw [hq]
    unfold rangeD
    rw [if_pos ⟨by decide, hs⟩]
    unfold rngL
    rw [show ((q : Nat) - 0 : Int).toNat = q by omega]
    exact congrArg some (List.map_congr_left fun i _ => by rw [Int.zero_add])
  refine ⟨q, by omega, ?_⟩
  simp only [m, m1] at hr
  simp [scr, hr, runF, lentR, exs, ex, ev, evT, evs, evb, eva, evr, evTs, evI, evC, bw_var, bw_cst, bw_glob, bw_bin, bw_neg, bw_cmp, bw_chain, bw_and, bw_or, bw_not, bw_ite, bw_tup, bw_lst, bw_call, bw_callK, pick, bw_bi, bw_isi, bw_mu, bw_mt, bw_ix, bw_sl, bw_rev, bw_slen, bw_six, bw_lc, bw_lc2, bw_sset, bw_cp, bw_maxd, bw_dsp, bw_dget, bw_dix, bw_dzip, bw_gget, bw_gix, bw_ch3, bw_rpr, kOf, gt, rd, rds, ra, ras, toD_d, toD_l, toD_s, toD_k, frz_d, frz_l, frz_s, frz_k, tru_bool, tru_int, tru_none, tru_list, tru_tuple, bin_add_int, bin_add_list, bin_add_tuple, bin_add_str, bin_sub_int, bin_mul_int, bin_mul_list, bin_mul_tuple, bin_fdiv_int, bin_mod_int, bin_pow_int, cmp_eq_int, cmp_ne_int, cmp_lt, cmp_le, cmp_gt, cmp_ge, cmp_isin, cmp_notin, cmp_is, cmp_isnot, cmpLt_int, cmpLe_int, isD_none, isD_bool, isNone, bi_len_list, bi_len_tuple, bi_abs, bi_max2, bi_min2, bi_sum, bi_all, bi_any, bi_list_list, bi_list_tuple, bi_tuple_list, bi_tuple_tuple, bi_sorted_list, bi_sorted_tuple, bi_int_int, bi_int_bool, bi_maxL, bi_minL, items_list, items_tuple, intsD, isT, mu_append, mu_pop, mu_extend, DI.ix_list, DI.ix_tuple, DI.sl_list, DI.sl_tuple, partI, cutD, HT.sIx, atI_0, atI_1, atI_2, atI_3, L2.ixN, setS, bt_nm, bt_tp_tuple, bt_tp_list, bt_stp, bt_stp_list, bts_nil, bts_cons, CTs.len, lcL, lcC, forL, iter_list, iter_tuple, wipeR, restoreR, wb, outR, retR, setPar, Arg.slot?, notTS, limLen, kindOf, List.filterMap_cons, List.filterMap_nil]
end DS

/-! S1: drawn worlds, numbers, rows, programs. -/
namespace DS
open PySem DI DB
def worlds : List Int := [0, 2, 3, 5, 7, 11, 97]
def WorldOk (Φ : Phi) : Prop := ∀ a b : Int, ∃ w ∈ worlds, ∃ a' b', Φ 10 [feedR a b] = some (.d (.int w), [feedR a' b'])
theorem worldOk {T : Tab} {wf n : Nat} (h8 : T 8 = some F8) (h9 : T 9 = some F9) (h10 : T 10 = some F10) : WorldOk (DI.Run T wf (n + 3)) := by
  intro a b
  obtain ⟨x, hx, a', b', h⟩ := pickOk (wf := wf) (n := n) h8 h9 a b [.int 0, .int 0, .int 0, .int 2, .int 3, .int 5, .int 7, .int 11, .int 97] (by simp) (by simp)
  have key : DI.Run T wf (n + 3) 10 [feedR a b] = some (.d x, [feedR a' b']) := by
    rw [run_eq h10]
    simp [F10, b10, h, runF, lentR, exs, ex, ev, evT, evs, evb, eva, evr, evTs, evI, evC, bw_var, bw_cst, bw_glob, bw_bin, bw_neg, bw_cmp, bw_chain, bw_and, bw_or, bw_not, bw_ite, bw_tup, bw_lst, bw_call, bw_callK, pick, bw_bi, bw_isi, bw_mu, bw_mt, bw_ix, bw_sl, bw_rev, bw_slen, bw_six, bw_lc, bw_lc2, bw_sset, bw_cp, bw_maxd, bw_dsp, bw_dget, bw_dix, bw_dzip, bw_gget, bw_gix, bw_ch3, bw_rpr, kOf, gt, rd, rds, ra, ras, toD_d, toD_l, toD_s, toD_k, frz_d, frz_l, frz_s, frz_k, tru_bool, tru_int, tru_none, tru_list, tru_tuple, bin_add_int, bin_add_list, bin_add_tuple, bin_add_str, bin_sub_int, bin_mul_int, bin_mul_list, bin_mul_tuple, bin_fdiv_int, bin_mod_int, bin_pow_int, cmp_eq_int, cmp_ne_int, cmp_lt, cmp_le, cmp_gt, cmp_ge, cmp_isin, cmp_notin, cmp_is, cmp_isnot, cmpLt_int, cmpLe_int, isD_none, isD_bool, isNone, bi_len_list, bi_len_tuple, bi_abs, bi_max2, bi_min2, bi_sum, bi_all, bi_any, bi_list_list, bi_list_tuple, bi_tuple_list, bi_tuple_tuple, bi_sorted_list, bi_sorted_tuple, bi_int_int, bi_int_bool, bi_maxL, bi_minL, items_list, items_tuple, intsD, isT, mu_append, mu_pop, mu_extend, DI.ix_list, DI.ix_tuple, DI.sl_list, DI.sl_tuple, partI, cutD, HT.sIx, atI_0, atI_1, atI_2, atI_3, L2.ixN, setS, bt_nm, bt_tp_tuple, bt_tp_list, bt_stp, bt_stp_list, bts_nil, bts_cons, CTs.len, lcL, lcC, forL, iter_list, iter_tuple, wipeR, restoreR, wb, outR, retR, setPar, Arg.slot?, notTS, limLen, kindOf, List.filterMap_cons, List.filterMap_nil]
  simp only [List.mem_cons, List.not_mem_nil, or_false] at hx
  rcases hx with rfl | rfl | rfl | rfl | rfl | rfl | rfl | rfl | rfl <;> exact ⟨_, by decide, a', b', key⟩
def NumberOk (Φ : Phi) : Prop := ∀ a b : Int, ∃ r a' b' : Int, r.natAbs < 10 ^ 6 ∧ Φ 11 [feedR a b] = some (.d (.int r), [feedR a' b'])
theorem numberOk {T : Tab} {wf n : Nat} (h8 : T 8 = some F8) (h11 : T 11 = some F11) : NumberOk (DI.Run T wf (n + 2)) := by
  intro a b
  have tk := takeOk (wf := wf) (n := n) h8
  obtain ⟨r, a1, b1, r0, r1, e1⟩ := tk a b 6 (by omega) (by omega)
  by_cases z : r = 0
  · subst z
    obtain ⟨r, a2, b2, r0, r1, e2⟩ := tk a1 b1 1000 (by omega) (by omega)
    refine ⟨999999 - r, a2, b2, by omega, ?_⟩
    rw [run_eq h11]
    simp [F11, b11, e1, e2, runF, lentR, exs, ex, ev, evT, evs, evb, eva, evr, evTs, evI, evC, bw_var, bw_cst, bw_glob, bw_bin, bw_neg, bw_cmp, bw_chain, bw_and, bw_or, bw_not, bw_ite, bw_tup, bw_lst, bw_call, bw_callK, pick, bw_bi, bw_isi, bw_mu, bw_mt, bw_ix, bw_sl, bw_rev, bw_slen, bw_six, bw_lc, bw_lc2, bw_sset, bw_cp, bw_maxd, bw_dsp, bw_dget, bw_dix, bw_dzip, bw_gget, bw_gix, bw_ch3, bw_rpr, kOf, gt, rd, rds, ra, ras, toD_d, toD_l, toD_s, toD_k, frz_d, frz_l, frz_s, frz_k, tru_bool, tru_int, tru_none, tru_list, tru_tuple, bin_add_int, bin_add_list, bin_add_tuple, bin_add_str, bin_sub_int, bin_mul_int, bin_mul_list, bin_mul_tuple, bin_fdiv_int, bin_mod_int, bin_pow_int, cmp_eq_int, cmp_ne_int, cmp_lt, cmp_le, cmp_gt, cmp_ge, cmp_isin, cmp_notin, cmp_is, cmp_isnot, cmpLt_int, cmpLe_int, isD_none, isD_bool, isNone, bi_len_list, bi_len_tuple, bi_abs, bi_max2, bi_min2, bi_sum, bi_all, bi_any, bi_list_list, bi_list_tuple, bi_tuple_list, bi_tuple_tuple, bi_sorted_list, bi_sorted_tuple, bi_int_int, bi_int_bool, bi_maxL, bi_minL, items_list, items_tuple, intsD, isT, mu_append, mu_pop, mu_extend, DI.ix_list, DI.ix_tuple, DI.sl_list, DI.sl_tuple, partI, cutD, HT.sIx, atI_0, atI_1, atI_2, atI_3, L2.ixN, setS, bt_nm, bt_tp_tuple, bt_tp_list, bt_stp, bt_stp_list, bts_nil, bts_cons, CTs.len, lcL, lcC, forL, iter_list, iter_tuple, wipeR, restoreR, wb, outR, retR, setPar, Arg.slot?, notTS, limLen, kindOf, List.filterMap_cons, List.filterMap_nil]
  · by_cases z1 : r = 1
    · subst z1
      obtain ⟨r, a2, b2, r0, r1, e2⟩ := tk a1 b1 1000000 (by omega) (by omega)
      refine ⟨0 - r, a2, b2, by omega, ?_⟩
      rw [run_eq h11]
      simp [F11, b11, e1, e2, runF, lentR, exs, ex, ev, evT, evs, evb, eva, evr, evTs, evI, evC, bw_var, bw_cst, bw_glob, bw_bin, bw_neg, bw_cmp, bw_chain, bw_and, bw_or, bw_not, bw_ite, bw_tup, bw_lst, bw_call, bw_callK, pick, bw_bi, bw_isi, bw_mu, bw_mt, bw_ix, bw_sl, bw_rev, bw_slen, bw_six, bw_lc, bw_lc2, bw_sset, bw_cp, bw_maxd, bw_dsp, bw_dget, bw_dix, bw_dzip, bw_gget, bw_gix, bw_ch3, bw_rpr, kOf, gt, rd, rds, ra, ras, toD_d, toD_l, toD_s, toD_k, frz_d, frz_l, frz_s, frz_k, tru_bool, tru_int, tru_none, tru_list, tru_tuple, bin_add_int, bin_add_list, bin_add_tuple, bin_add_str, bin_sub_int, bin_mul_int, bin_mul_list, bin_mul_tuple, bin_fdiv_int, bin_mod_int, bin_pow_int, cmp_eq_int, cmp_ne_int, cmp_lt, cmp_le, cmp_gt, cmp_ge, cmp_isin, cmp_notin, cmp_is, cmp_isnot, cmpLt_int, cmpLe_int, isD_none, isD_bool, isNone, bi_len_list, bi_len_tuple, bi_abs, bi_max2, bi_min2, bi_sum, bi_all, bi_any, bi_list_list, bi_list_tuple, bi_tuple_list, bi_tuple_tuple, bi_sorted_list, bi_sorted_tuple, bi_int_int, bi_int_bool, bi_maxL, bi_minL, items_list, items_tuple, intsD, isT, mu_append, mu_pop, mu_extend, DI.ix_list, DI.ix_tuple, DI.sl_list, DI.sl_tuple, partI, cutD, HT.sIx, atI_0, atI_1, atI_2, atI_3, L2.ixN, setS, bt_nm, bt_tp_tuple, bt_tp_list, bt_stp, bt_stp_list, bts_nil, bts_cons, CTs.len, lcL, lcC, forL, iter_list, iter_tuple, wipeR, restoreR, wb, outR, retR, setPar, Arg.slot?, notTS, limLen, kindOf, List.filterMap_cons, List.filterMap_nil]
    · obtain ⟨r2, a2, b2, r20, r21, e2⟩ := tk a1 b1 13 (by omega) (by omega)
      refine ⟨r2 - 4, a2, b2, by omega, ?_⟩
      rw [run_eq h11]
      simp [F11, b11, e1, e2, z, z1, runF, lentR, exs, ex, ev, evT, evs, evb, eva, evr, evTs, evI, evC, bw_var, bw_cst, bw_glob, bw_bin, bw_neg, bw_cmp, bw_chain, bw_and, bw_or, bw_not, bw_ite, bw_tup, bw_lst, bw_call, bw_callK, pick, bw_bi, bw_isi, bw_mu, bw_mt, bw_ix, bw_sl, bw_rev, bw_slen, bw_six, bw_lc, bw_lc2, bw_sset, bw_cp, bw_maxd, bw_dsp, bw_dget, bw_dix, bw_dzip, bw_gget, bw_gix, bw_ch3, bw_rpr, kOf, gt, rd, rds, ra, ras, toD_d, toD_l, toD_s, toD_k, frz_d, frz_l, frz_s, frz_k, tru_bool, tru_int, tru_none, tru_list, tru_tuple, bin_add_int, bin_add_list, bin_add_tuple, bin_add_str, bin_sub_int, bin_mul_int, bin_mul_list, bin_mul_tuple, bin_fdiv_int, bin_mod_int, bin_pow_int, cmp_eq_int, cmp_ne_int, cmp_lt, cmp_le, cmp_gt, cmp_ge, cmp_isin, cmp_notin, cmp_is, cmp_isnot, cmpLt_int, cmpLe_int, isD_none, isD_bool, isNone, bi_len_list, bi_len_tuple, bi_abs, bi_max2, bi_min2, bi_sum, bi_all, bi_any, bi_list_list, bi_list_tuple, bi_tuple_list, bi_tuple_tuple, bi_sorted_list, bi_sorted_tuple, bi_int_int, bi_int_bool, bi_maxL, bi_minL, items_list, items_tuple, intsD, isT, mu_append, mu_pop, mu_extend, DI.ix_list, DI.ix_tuple, DI.sl_list, DI.sl_tuple, partI, cutD, HT.sIx, atI_0, atI_1, atI_2, atI_3, L2.ixN, setS, bt_nm, bt_tp_tuple, bt_tp_list, bt_stp, bt_stp_list, bts_nil, bts_cons, CTs.len, lcL, lcC, forL, iter_list, iter_tuple, wipeR, restoreR, wb, outR, retR, setPar, Arg.slot?, notTS, limLen, kindOf, List.filterMap_cons, List.filterMap_nil]
theorem lay_ints (ns : List Int) : PyData.canLayAll0 (ns.map PyData.int) = true ∧ PyData.depthAll (ns.map PyData.int) = 0 := by
  induction ns with
  | nil => exact ⟨rfl, rfl⟩
  | cons n ns ih => simp [PyData.canLayAll0, PyData.canLay0, PyData.depthAll, PyData.depth, ih.1, ih.2]
theorem shaped_ints (ns : List Int) : SeqAt.shaped (.list (ns.map .int)) = true := by
  simp [SeqAt.shaped, PyData.canLay0, PyData.depth, (lay_ints ns).1, (lay_ints ns).2]
theorem shaped_two (g o : List Int) : SeqAt.shaped (.list [.tuple (g.map .int), .tuple (o.map .int)]) = true := by
  simp [SeqAt.shaped, PyData.canLayAll0, PyData.canLay0, PyData.depthAll, PyData.depth, (lay_ints g).1, (lay_ints g).2, (lay_ints o).1, (lay_ints o).2]
theorem shaped_tints (ns : List Int) : SeqAt.shaped (.tuple (ns.map .int)) = true := by
  have := shaped_ints ns
  simpa [SeqAt.shaped, PyData.canLay0, PyData.depth] using this
/-- the numbers below, one left out -/
def belowBut (m : Nat) (w : Int) : List Int := ((List.range m).map fun (i : Nat) => (i : Int)).filter fun i => decide (i ≠ w)
theorem belowBut_mem {m : Nat} {w i : Int} : i ∈ belowBut m w ↔ 0 ≤ i ∧ i < m ∧ i ≠ w := by
  simp only [belowBut, List.mem_filter, List.mem_map, List.mem_range, decide_eq_true_eq]
  constructor
  · rintro ⟨⟨k, hk, rfl⟩, h⟩
    exact ⟨by omega, by omega, h⟩
  · rintro ⟨h1, h2, h3⟩
    exact ⟨⟨i.toNat, by omega, by omega⟩, h3⟩
theorem belowBut_len (m : Nat) (w : Int) : (belowBut m w).length ≤ m := by
  have := List.length_filter_le (fun i : Int => decide (i ≠ w)) ((List.range m).map fun (i : Nat) => (i : Int))
  simpa [belowBut] using this
theorem rngL_nat (k : Nat) : rngL 0 (k : Nat) = (List.range k).map fun (i : Nat) => .int (i : Int) := by
  unfold rngL
  rw [show ((k : Nat) - 0 : Int).toNat = k by omega]
  exact List.map_congr_left fun i _ => by rw [Int.zero_add]
theorem small_nat {k : Nat} (hk : k ≤ 1000000) : smallI (k : Nat) = true := by
  have q : ((k : Nat) : Int) ≤ 1000000 := by omega
  have q0 : (0 : Int) ≤ (k : Nat) := by omega
  generalize ((k : Nat) : Int) = z at q q0
  unfold smallI
  rw [Bool.and_eq_true, decide_eq_true_iff, decide_eq_true_iff]
  exact ⟨Int.le_trans (by decide) q0, Int.lt_of_le_of_lt q (by decide)⟩
theorem rangeD_nat {k : Nat} (hk : k ≤ 1000000) : rangeD 0 (k : Nat) = some ((List.range k).map fun (i : Nat) => .int (i : Int)) := by
  unfold rangeD
  rw [if_pos ⟨by decide, small_nat hk⟩, rngL_nat]
theorem rangeL_nat {k : Nat} (hk : k ≤ 1000000) : rangeL 0 (k : Nat) = some (.l ((List.range k).map fun (i : Nat) => .int (i : Int))) := by
  have e : ((k : Nat) - 0 : Int).toNat = k := by omega
  unfold rangeL
  rw [e, if_pos ⟨by decide, small_nat hk, Nat.le_trans hk (by decide)⟩, rngL_nat]
theorem rng_ev {Φ : Phi} {c : CE} {k : Nat} {ρ ρ1 : Rho} (h : ev Φ c ρ = some (.d (.int (k : Nat)), ρ1)) (hk : k ≤ 1000000) : evI Φ (.rng1 c) ρ = some ((List.range k).map fun (i : Nat) => .int (i : Int), ρ1) := by
  rw [evI, h, Option.bind_some]
  show (rangeD 0 (k : Nat)).map _ = _
  rw [rangeD_nat hk]
  rfl
theorem lrg_ev {Φ : Phi} {c : CE} {k : Nat} {ρ ρ1 : Rho} (h : ev Φ c ρ = some (.d (.int (k : Nat)), ρ1)) (hk : k ≤ 1000000) : ev Φ (.lrg1 c) ρ = some (.l ((List.range k).map fun (i : Nat) => .int (i : Int)), ρ1) := by
  rw [ev, h, Option.bind_some]
  show (rangeL 0 (k : Nat)).map _ = _
  rw [rangeL_nat hk]
  rfl
theorem c0_12_ok (Φ : Phi) (m : Nat) (hm : m ≤ 1000) (w : Int) (f x2 x4 x5 x6 : Option R) : ev Φ c0_12 [f, some (.d (.int (m : Nat))), x2, some (.d (.int w)), x4, x5, x6] = some (.l ((belowBut m w).map .int), [f, some (.d (.int (m : Nat))), x2, some (.d (.int w)), x4, x5, x6]) := by
  have h1 : evI Φ (.rng1 (.var 1)) [f, some (.d (.int (m : Nat))), x2, some (.d (.int w)), x4, x5, x6] = some ((List.range m).map fun (i : Nat) => .int (i : Int), [f, some (.d (.int (m : Nat))), x2, some (.d (.int w)), x4, x5, x6]) := rng_ev (by simp [runF, lentR, exs, ex, ev, evT, evs, evb, eva, evr, evTs, evI, evC, bw_var, bw_cst, bw_glob, bw_bin, bw_neg, bw_cmp, bw_chain, bw_and, bw_or, bw_not, bw_ite, bw_tup, bw_lst, bw_call, bw_callK, pick, bw_bi, bw_isi, bw_mu, bw_mt, bw_ix, bw_sl, bw_rev, bw_slen, bw_six, bw_lc, bw_lc2, bw_sset, bw_cp, bw_maxd, bw_dsp, bw_dget, bw_dix, bw_dzip, bw_gget, bw_gix, bw_ch3, bw_rpr, kOf, gt, rd, rds, ra, ras, toD_d, toD_l, toD_s, toD_k, frz_d, frz_l, frz_s, frz_k, tru_bool, tru_int, tru_none, tru_list, tru_tuple, bin_add_int, bin_add_list, bin_add_tuple, bin_add_str, bin_sub_int, bin_mul_int, bin_mul_list, bin_mul_tuple, bin_fdiv_int, bin_mod_int, bin_pow_int, cmp_eq_int, cmp_ne_int, cmp_lt, cmp_le, cmp_gt, cmp_ge, cmp_isin, cmp_notin, cmp_is, cmp_isnot, cmpLt_int, cmpLe_int, isD_none, isD_bool, isNone, bi_len_list, bi_len_tuple, bi_abs, bi_max2, bi_min2, bi_sum, bi_all, bi_any, bi_list_list, bi_list_tuple, bi_tuple_list, bi_tuple_tuple, bi_sorted_list, bi_sorted_tuple, bi_int_int, bi_int_bool, bi_maxL, bi_minL, items_list, items_tuple, intsD, isT, mu_append, mu_pop, mu_extend, DI.ix_list, DI.ix_tuple, DI.sl_list, DI.sl_tuple, partI, cutD, HT.sIx, atI_0, atI_1, atI_2, atI_3, L2.ixN, setS, bt_nm, bt_tp_tuple, bt_tp_list, bt_stp, bt_stp_list, bts_nil, bts_cons, CTs.len, lcL, lcC, forL, iter_list, iter_tuple, wipeR, restoreR, wb, outR, retR, setPar, Arg.slot?, notTS, limLen, kindOf, List.filterMap_cons, List.filterMap_nil]) (by omega)
  have h2 := lcL_same (f := lcF Φ [5] (.var 5) (.nm 5) (.cons (.cmp .ne (.var 5) (.var 3)) .nil)) (ρ := [f, some (.d (.int (m : Nat))), x2, some (.d (.int w)), x4, none, x6]) (g := fun x => match x with
    | .int i => if i ≠ w then some (.int i) else none
    | _ => none) (xs := (List.range m).map fun (i : Nat) => .int (i : Int)) (fun x hx => by
      obtain ⟨i, _, rfl⟩ := List.mem_map.mp hx
      by_cases z : (i : Int) = w
      · simp [lcF, z, evTs, runF, lentR, exs, ex, ev, evT, evs, evb, eva, evr, evTs, evI, evC, bw_var, bw_cst, bw_glob, bw_bin, bw_neg, bw_cmp, bw_chain, bw_and, bw_or, bw_not, bw_ite, bw_tup, bw_lst, bw_call, bw_callK, pick, bw_bi, bw_isi, bw_mu, bw_mt, bw_ix, bw_sl, bw_rev, bw_slen, bw_six, bw_lc, bw_lc2, bw_sset, bw_cp, bw_maxd, bw_dsp, bw_dget, bw_dix, bw_dzip, bw_gget, bw_gix, bw_ch3, bw_rpr, kOf, gt, rd, rds, ra, ras, toD_d, toD_l, toD_s, toD_k, frz_d, frz_l, frz_s, frz_k, tru_bool, tru_int, tru_none, tru_list, tru_tuple, bin_add_int, bin_add_list, bin_add_tuple, bin_add_str, bin_sub_int, bin_mul_int, bin_mul_list, bin_mul_tuple, bin_fdiv_int, bin_mod_int, bin_pow_int, cmp_eq_int, cmp_ne_int, cmp_lt, cmp_le, cmp_gt, cmp_ge, cmp_isin, cmp_notin, cmp_is, cmp_isnot, cmpLt_int, cmpLe_int, isD_none, isD_bool, isNone, bi_len_list, bi_len_tuple, bi_abs, bi_max2, bi_min2, bi_sum, bi_all, bi_any, bi_list_list, bi_list_tuple, bi_tuple_list, bi_tuple_tuple, bi_sorted_list, bi_sorted_tuple, bi_int_int, bi_int_bool, bi_maxL, bi_minL, items_list, items_tuple, intsD, isT, mu_append, mu_pop, mu_extend, DI.ix_list, DI.ix_tuple, DI.sl_list, DI.sl_tuple, partI, cutD, HT.sIx, atI_0, atI_1, atI_2, atI_3, L2.ixN, setS, bt_nm, bt_tp_tuple, bt_tp_list, bt_stp, bt_stp_list, bts_nil, bts_cons, CTs.len, lcL, lcC, forL, iter_list, iter_tuple, wipeR, restoreR, wb, outR, retR, setPar, Arg.slot?, notTS, limLen, kindOf, List.filterMap_cons, List.filterMap_nil]
      · simp [lcF, z, evTs, runF, lentR, exs, ex, ev, evT, evs, evb, eva, evr, evTs, evI, evC, bw_var, bw_cst, bw_glob, bw_bin, bw_neg, bw_cmp, bw_chain, bw_and, bw_or, bw_not, bw_ite, bw_tup, bw_lst, bw_call, bw_callK, pick, bw_bi, bw_isi, bw_mu, bw_mt, bw_ix, bw_sl, bw_rev, bw_slen, bw_six, bw_lc, bw_lc2, bw_sset, bw_cp, bw_maxd, bw_dsp, bw_dget, bw_dix, bw_dzip, bw_gget, bw_gix, bw_ch3, bw_rpr, kOf, gt, rd, rds, ra, ras, toD_d, toD_l, toD_s, toD_k, frz_d, frz_l, frz_s, frz_k, tru_bool, tru_int, tru_none, tru_list, tru_tuple, bin_add_int, bin_add_list, bin_add_tuple, bin_add_str, bin_sub_int, bin_mul_int, bin_mul_list, bin_mul_tuple, bin_fdiv_int, bin_mod_int, bin_pow_int, cmp_eq_int, cmp_ne_int, cmp_lt, cmp_le, cmp_gt, cmp_ge, cmp_isin, cmp_notin, cmp_is, cmp_isnot, cmpLt_int, cmpLe_int, isD_none, isD_bool, isNone, bi_len_list, bi_len_tuple, bi_abs, bi_max2, bi_min2, bi_sum, bi_all, bi_any, bi_list_list, bi_list_tuple, bi_tuple_list, bi_tuple_tuple, bi_sorted_list, bi_sorted_tuple, bi_int_int, bi_int_bool, bi_maxL, bi_minL, items_list, items_tuple, intsD, isT, mu_append, mu_pop, mu_extend, DI.ix_list, DI.ix_tuple, DI.sl_list, DI.sl_tuple, partI, cutD, HT.sIx, atI_0, atI_1, atI_2, atI_3, L2.ixN, setS, bt_nm, bt_tp_tuple, bt_tp_list, bt_stp, bt_stp_list, bts_nil, bts_cons, CTs.len, lcL, lcC, forL, iter_list, iter_tuple, wipeR, restoreR, wb, outR, retR, setPar, Arg.slot?, notTS, limLen, kindOf, List.filterMap_cons, List.filterMap_nil])
  have e : ((List.range m).map fun (i : Nat) => PyData.int (i : Int)).filterMap (fun x => match x with
    | .int i => if i ≠ w then some (PyData.int i) else none
    | _ => none) = (belowBut m w).map .int := by
    unfold belowBut
    induction List.range m with
    | nil => rfl
    | cons k ks ih =>
      simp only [List.map_cons, List.filterMap_cons, List.filter_cons]
      by_cases z : (k : Int) = w
      · simp [z] at ih ⊢
        simpa using ih
      · simp [z] at ih ⊢
        simpa using ih
  rw [e] at h2
  exact ev_lc h1 h2 (by rw [List.length_map]; exact Nat.le_trans (belowBut_len m w) (by unfold limLen; omega))
def SomeOk (Φ : Phi) : Prop := ∀ (a b : Int) (m k : Nat) (w : Int), m ≤ 1000 → k ≤ 1000 → ∃ (l : List Int) (a' b' : Int), l.Pairwise (· ≤ ·) ∧ l.length ≤ k ∧ (∀ x ∈ l, 0 ≤ x ∧ x < m ∧ x ≠ w) ∧
  Φ 12 [feedR a b, .d (.int (m : Nat)), .d (.int (k : Nat)), .d (.int w)] = some (.d (.tuple (l.map .int)), [feedR a' b', .d (.int (m : Nat)), .d (.int (k : Nat)), .d (.int w)])
theorem ints_of {l : List PyData} {P : Int → Prop} (h : ∀ x ∈ l, ∃ i, x = .int i ∧ P i) : ∃ ns : List Int, l = ns.map .int ∧ ∀ n ∈ ns, P n := by
  induction l with
  | nil => exact ⟨[], rfl, by simp⟩
  | cons x l ih =>
    obtain ⟨ns, e, q⟩ := ih fun y hy => h y (List.mem_cons_of_mem _ hy)
    obtain ⟨i, e1, q1⟩ := h x List.mem_cons_self
    exact ⟨i :: ns, by rw [e1, e]; rfl, fun n hn => (List.mem_cons.mp hn).elim (fun z => z ▸ q1) (q n)⟩
theorem c1_12_ok (Φ : Phi) (tk : TakeOk Φ) (pk : PickOk Φ) (a b : Int) (x1 x3 x5 x6 : Option R) (k : Nat) (hk : k ≤ 1000) (l : List Int) (hl : l ≠ []) (hl2 : l.length ≤ 1000) : ∃ (r : List Int) (a' b' : Int) (s4 : R), r.length ≤ k ∧ (∀ x ∈ r, x ∈ l) ∧
    ev Φ c1_12 [some (feedR a b), x1, some (.d (.int (k : Nat))), x3, some (.l (l.map .int)), x5, x6] = some (.l (r.map .int), [some (feedR a' b'), x1, some (.d (.int (k : Nat))), x3, some s4, x5, x6]) := by
  obtain ⟨r, a1, b1, r0, r1, e1⟩ := tk a b (k + 1) (by omega) (by omega)
  obtain ⟨q, rfl⟩ : ∃ q : Nat, r = q := ⟨r.toNat, by omega⟩
  have h1 : evI Φ (.rng1 (.call 8 [true, false] (.cons (.var 0) (.cons (.bin .add (.var 2) (.cst (.int 1))) .nil)))) [some (feedR a b), x1, some (.d (.int (k : Nat))), x3, some (.l (l.map .int)), x5, x6] =
      some ((List.range q).map fun (i : Nat) => .int (i : Int), [some (feedR a1 b1), x1, some (.d (.int (k : Nat))), x3, some (.l (l.map .int)), x5, x6]) := rng_ev (by simp [e1, runF, lentR, exs, ex, ev, evT, evs, evb, eva, evr, evTs, evI, evC, bw_var, bw_cst, bw_glob, bw_bin, bw_neg, bw_cmp, bw_chain, bw_and, bw_or, bw_not, bw_ite, bw_tup, bw_lst, bw_call, bw_callK, pick, bw_bi, bw_isi, bw_mu, bw_mt, bw_ix, bw_sl, bw_rev, bw_slen, bw_six, bw_lc, bw_lc2, bw_sset, bw_cp, bw_maxd, bw_dsp, bw_dget, bw_dix, bw_dzip, bw_gget, bw_gix, bw_ch3, bw_rpr, kOf, gt, rd, rds, ra, ras, toD_d, toD_l, toD_s, toD_k, frz_d, frz_l, frz_s, frz_k, tru_bool, tru_int, tru_none, tru_list, tru_tuple, bin_add_int, bin_add_list, bin_add_tuple, bin_add_str, bin_sub_int, bin_mul_int, bin_mul_list, bin_mul_tuple, bin_fdiv_int, bin_mod_int, bin_pow_int, cmp_eq_int, cmp_ne_int, cmp_lt, cmp_le, cmp_gt, cmp_ge, cmp_isin, cmp_notin, cmp_is, cmp_isnot, cmpLt_int, cmpLe_int, isD_none, isD_bool, isNone, bi_len_list, bi_len_tuple, bi_abs, bi_max2, bi_min2, bi_sum, bi_all, bi_any, bi_list_list, bi_list_tuple, bi_tuple_list, bi_tuple_tuple, bi_sorted_list, bi_sorted_tuple, bi_int_int, bi_int_bool, bi_maxL, bi_minL, items_list, items_tuple, intsD, isT, mu_append, mu_pop, mu_extend, DI.ix_list, DI.ix_tuple, DI.sl_list, DI.sl_tuple, partI, cutD, HT.sIx, atI_0, atI_1, atI_2, atI_3, L2.ixN, setS, bt_nm, bt_tp_tuple, bt_tp_list, bt_stp, bt_stp_list, bts_nil, bts_cons, CTs.len, lcL, lcC, forL, iter_list, iter_tuple, wipeR, restoreR, wb, outR, retR, setPar, Arg.slot?, notTS, limLen, kindOf, List.filterMap_cons, List.filterMap_nil]) (by omega)
  obtain ⟨ys, ρ', h2, ⟨a2, b2, s4, _, rfl⟩, q2, l2⟩ := lcL_inv (f := lcF Φ [6] (.call 9 [true, false] (.cons (.var 0) (.cons (.var 4) .nil))) (.nm 6) .nil) (xs := (List.range q).map fun (i : Nat) => .int (i : Int))
    (fun ρ => ∃ a b s4, (s4 = .l (l.map .int) ∨ s4 = .d (.list (l.map .int))) ∧ ρ = [some (feedR a b), x1, some (.d (.int (k : Nat))), x3, some s4, x5, none]) (fun y => ∃ i, y = .int i ∧ i ∈ l) (fun x _ ρ ⟨a, b, s4, h4, e⟩ => by
      subst e
      obtain ⟨y, hy, a', b', e⟩ := pk a b (l.map .int) (by simpa using hl) (by simp; omega)
      obtain ⟨i, hi, rfl⟩ := List.mem_map.mp hy
      refine ⟨.int i, [some (feedR a' b'), x1, some (.d (.int (k : Nat))), x3, some (.d (.list (l.map .int))), x5, none], ?_, ⟨a', b', _, .inr rfl, rfl⟩, i, rfl, hi⟩
      rcases h4 with rfl | rfl <;> simp [lcF, evTs, e, runF, lentR, exs, ex, ev, evT, evs, evb, eva, evr, evTs, evI, evC, bw_var, bw_cst, bw_glob, bw_bin, bw_neg, bw_cmp, bw_chain, bw_and, bw_or, bw_not, bw_ite, bw_tup, bw_lst, bw_call, bw_callK, pick, bw_bi, bw_isi, bw_mu, bw_mt, bw_ix, bw_sl, bw_rev, bw_slen, bw_six, bw_lc, bw_lc2, bw_sset, bw_cp, bw_maxd, bw_dsp, bw_dget, bw_dix, bw_dzip, bw_gget, bw_gix, bw_ch3, bw_rpr, kOf, gt, rd, rds, ra, ras, toD_d, toD_l, toD_s, toD_k, frz_d, frz_l, frz_s, frz_k, tru_bool, tru_int, tru_none, tru_list, tru_tuple, bin_add_int, bin_add_list, bin_add_tuple, bin_add_str, bin_sub_int, bin_mul_int, bin_mul_list, bin_mul_tuple, bin_fdiv_int, bin_mod_int, bin_pow_int, cmp_eq_int, cmp_ne_int, cmp_lt, cmp_le, cmp_gt, cmp_ge, cmp_isin, cmp_notin, cmp_is, cmp_isnot, cmpLt_int, cmpLe_int, isD_none, isD_bool, isNone, bi_len_list, bi_len_tuple, bi_abs, bi_max2, bi_min2, bi_sum, bi_all, bi_any, bi_list_list, bi_list_tuple, bi_tuple_list, bi_tuple_tuple, bi_sorted_list, bi_sorted_tuple, bi_int_int, bi_int_bool, bi_maxL, bi_minL, items_list, items_tuple, intsD, isT, mu_append, mu_pop, mu_extend, DI.ix_list, DI.ix_tuple, DI.sl_list, DI.sl_tuple, partI, cutD, HT.sIx, atI_0, atI_1, atI_2, atI_3, L2.ixN, setS, bt_nm, bt_tp_tuple, bt_tp_list, bt_stp, bt_stp_list, bts_nil, bts_cons, CTs.len, lcL, lcC, forL, iter_list, iter_tuple, wipeR, restoreR, wb, outR, retR, setPar, Arg.slot?, notTS, limLen, kindOf, List.filterMap_cons, List.filterMap_nil]) (ρ := [some (feedR a1 b1), x1, some (.d (.int (k : Nat))), x3, some (.l (l.map .int)), x5, none]) ⟨a1, b1, _, .inl rfl, rfl⟩
  obtain ⟨ns, rfl, hns⟩ := ints_of q2
  have hlen : ns.length = q := by simpa using l2
  refine ⟨ns, a2, b2, s4, by omega, hns, ?_⟩
  exact ev_lc h1 h2 (by rw [List.length_map, hlen]; unfold limLen; omega)
theorem someOk {T : Tab} {wf n : Nat} (h8 : T 8 = some F8) (h9 : T 9 = some F9) (h12 : T 12 = some F12) : SomeOk (DI.Run T wf (n + 3)) := by
  intro a b m k w hm hk
  have e0 := c0_12_ok (DI.Run T wf (n + 2)) m hm w (some (feedR a b)) (some (.d (.int (k : Nat)))) none none none
  have sh := shaped_ints (belowBut m w)
  by_cases hne : belowBut m w = []
  · refine ⟨[], a, b, List.Pairwise.nil, by simp, by simp, ?_⟩
    have c : cmp .eq (.list []) (.list []) = some true := rfl
    rw [hne] at e0
    rw [run_eq h12]
    simp [F12, b12, e0, wc0_12, c, runF, lentR, exs, ex, ev, evT, evs, evb, eva, evr, evTs, evI, evC, bw_var, bw_cst, bw_glob, bw_bin, bw_neg, bw_cmp, bw_chain, bw_and, bw_or, bw_not, bw_ite, bw_tup, bw_lst, bw_call, bw_callK, pick, bw_bi, bw_isi, bw_mu, bw_mt, bw_ix, bw_sl, bw_rev, bw_slen, bw_six, bw_lc, bw_lc2, bw_sset, bw_cp, bw_maxd, bw_dsp, bw_dget, bw_dix, bw_dzip, bw_gget, bw_gix, bw_ch3, bw_rpr, kOf, gt, rd, rds, ra, ras, toD_d, toD_l, toD_s, toD_k, frz_d, frz_l, frz_s, frz_k, tru_bool, tru_int, tru_none, tru_list, tru_tuple, bin_add_int, bin_add_list, bin_add_tuple, bin_add_str, bin_sub_int, bin_mul_int, bin_mul_list, bin_mul_tuple, bin_fdiv_int, bin_mod_int, bin_pow_int, cmp_eq_int, cmp_ne_int, cmp_lt, cmp_le, cmp_gt, cmp_ge, cmp_isin, cmp_notin, cmp_is, cmp_isnot, cmpLt_int, cmpLe_int, isD_none, isD_bool, isNone, bi_len_list, bi_len_tuple, bi_abs, bi_max2, bi_min2, bi_sum, bi_all, bi_any, bi_list_list, bi_list_tuple, bi_tuple_list, bi_tuple_tuple, bi_sorted_list, bi_sorted_tuple, bi_int_int, bi_int_bool, bi_maxL, bi_minL, items_list, items_tuple, intsD, isT, mu_append, mu_pop, mu_extend, DI.ix_list, DI.ix_tuple, DI.sl_list, DI.sl_tuple, partI, cutD, HT.sIx, atI_0, atI_1, atI_2, atI_3, L2.ixN, setS, bt_nm, bt_tp_tuple, bt_tp_list, bt_stp, bt_stp_list, bts_nil, bts_cons, CTs.len, lcL, lcC, forL, iter_list, iter_tuple, wipeR, restoreR, wb, outR, retR, setPar, Arg.slot?, notTS, limLen, kindOf, List.filterMap_cons, List.filterMap_nil]
  · obtain ⟨r, a', b', s4, l1, m1, e1⟩ := c1_12_ok (DI.Run T wf (n + 2)) (takeOk (n := n + 1) h8) (pickOk (n := n) h8 h9) a b (some (.d (.int (m : Nat)))) (some (.d (.int w))) none none k hk (belowBut m w) hne (Nat.le_trans (belowBut_len m w) hm)
    have c : cmp .eq (.list ((belowBut m w).map .int)) (.list []) = some false := by
      rw [show cmp .eq (.list ((belowBut m w).map .int)) (.list []) = cmpEq (.list ((belowBut m w).map .int)) (.list []) from rfl]
      refine cmpEq_of sh rfl ?_
      rw [eqv_nil]
      cases h : belowBut m w with
      | nil => exact absurd h hne
      | cons _ _ => rfl
    have st := sort_ints r (by unfold limLen; omega)
    refine ⟨isort r, a', b', isort_sorted r, by rw [(isort_perm r).length_eq]; exact l1, fun x hx => ?_, ?_⟩
    · exact belowBut_mem.mp (m1 x ((isort_perm r).mem_iff.mp hx))
    · rw [run_eq h12]
      simp [F12, b12, e0, e1, wc0_12, wc1_12, c, st, runF, lentR, exs, ex, ev, evT, evs, evb, eva, evr, evTs, evI, evC, bw_var, bw_cst, bw_glob, bw_bin, bw_neg, bw_cmp, bw_chain, bw_and, bw_or, bw_not, bw_ite, bw_tup, bw_lst, bw_call, bw_callK, pick, bw_bi, bw_isi, bw_mu, bw_mt, bw_ix, bw_sl, bw_rev, bw_slen, bw_six, bw_lc, bw_lc2, bw_sset, bw_cp, bw_maxd, bw_dsp, bw_dget, bw_dix, bw_dzip, bw_gget, bw_gix, bw_ch3, bw_rpr, kOf, gt, rd, rds, ra, ras, toD_d, toD_l, toD_s, toD_k, frz_d, frz_l, frz_s, frz_k, tru_bool, tru_int, tru_none, tru_list, tru_tuple, bin_add_int, bin_add_list, bin_add_tuple, bin_add_str, bin_sub_int, bin_mul_int, bin_mul_list, bin_mul_tuple, bin_fdiv_int, bin_mod_int, bin_pow_int, cmp_eq_int, cmp_ne_int, cmp_lt, cmp_le, cmp_gt, cmp_ge, cmp_isin, cmp_notin, cmp_is, cmp_isnot, cmpLt_int, cmpLe_int, isD_none, isD_bool, isNone, bi_len_list, bi_len_tuple, bi_abs, bi_max2, bi_min2, bi_sum, bi_all, bi_any, bi_list_list, bi_list_tuple, bi_tuple_list, bi_tuple_tuple, bi_sorted_list, bi_sorted_tuple, bi_int_int, bi_int_bool, bi_maxL, bi_minL, items_list, items_tuple, intsD, isT, mu_append, mu_pop, mu_extend, DI.ix_list, DI.ix_tuple, DI.sl_list, DI.sl_tuple, partI, cutD, HT.sIx, atI_0, atI_1, atI_2, atI_3, L2.ixN, setS, bt_nm, bt_tp_tuple, bt_tp_list, bt_stp, bt_stp_list, bts_nil, bts_cons, CTs.len, lcL, lcC, forL, iter_list, iter_tuple, wipeR, restoreR, wb, outR, retR, setPar, Arg.slot?, notTS, limLen, kindOf, List.filterMap_cons, List.filterMap_nil]
/-! ### rows -/
inductive Row where
  | unit (to c : Int)
  | gain (to c : Int) (g o : List Int)
def Row.enc : Row → PyData
  | .unit to c => .tuple [.int to, .int c]
  | .gain to c g o => .tuple [.int to, .int c, .tuple (g.map .int), .tuple (o.map .int)]
def UnitC (w c : Int) : Prop := (w = 0 → c = 1 ∨ c = -1) ∧ (0 < w → c % w ≠ 0)
def mostO (w : Int) : Nat := if w = 0 then 1 else 4
def RowGood (nb ni : Nat) (w : Int) : Row → Prop
  | .unit to c => (0 ≤ to ∧ to < nb) ∧ c.natAbs < 10 ^ 6 ∧ UnitC w c
  | .gain to c g o => (0 ≤ to ∧ to < nb) ∧ c.natAbs < 10 ^ 6 ∧ (g.length ≤ 2 ∧ g.Pairwise (· ≤ ·) ∧ ∀ x ∈ g, 0 ≤ x ∧ x < ni) ∧ (o.length ≤ mostO w ∧ o.Pairwise (· ≤ ·) ∧ ∀ x ∈ o, 0 ≤ x ∧ x < nb) ∧ to ∉ o
def RowOk (Φ : Phi) : Prop := ∀ (a b : Int) (nb ni : Nat) (w : Int), 1 ≤ nb → nb ≤ 1000 → ni ≤ 1000 → w ∈ worlds → ∃ (r : Row) (a' b' : Int), RowGood nb ni w r ∧
  Φ 13 [feedR a b, .d (.int (nb : Nat)), .d (.int (ni : Nat)), .d (.int w)] = some (.d r.enc, [feedR a' b', .d (.int (nb : Nat)), .d (.int (ni : Nat)), .d (.int w)])
theorem world_bd {w : Int} (h : w ∈ worlds) : w = 0 ∨ (2 ≤ w ∧ w ≤ 97) := by
  simp only [worlds, List.mem_cons, List.not_mem_nil, or_false] at h
  omega
theorem mul_small {w r : Int} (h : w ≤ 97) (h0 : 0 ≤ w) (r0 : -10 ≤ r) (r1 : r ≤ 10) : (w * r).natAbs ≤ 970 := by
  rw [Int.natAbs_mul]
  exact Nat.le_trans (Nat.mul_le_mul (show w.natAbs ≤ 97 by omega) (show r.natAbs ≤ 10 by omega)) (by decide)
set_option maxHeartbeats 1000000 in
theorem rowOk {T : Tab} {wf n : Nat} (h8 : T 8 = some F8) (h9 : T 9 = some F9) (h11 : T 11 = some F11) (h12 : T 12 = some F12) (h13 : T 13 = some F13) : RowOk (DI.Run T wf (n + 4)) := by
  intro a b nb ni w hb1 hb2 hi hw
  have tk := takeOk (wf := wf) (n := n + 2) h8
  have pk := pickOk (wf := wf) (n := n + 1) h8 h9
  have wbd := world_bd hw
  obtain ⟨to, a1, b1, to0, to1, e1⟩ := tk a b nb (by omega) (by omega)
  obtain ⟨r6, a2, b2, r60, r61, e2⟩ := tk a1 b1 6 (by omega) (by omega)
  by_cases z6 : r6 = 0
  · subst z6
    obtain ⟨x, hx, a3, b3, e3⟩ := pk a2 b2 [.int 1, .int (-1)] (by simp) (by simp)
    obtain ⟨c, rfl, hc⟩ : ∃ c : Int, x = .int c ∧ (c = 1 ∨ c = -1) := by
      simp only [List.mem_cons, List.not_mem_nil, or_false] at hx
      rcases hx with rfl | rfl
      · exact ⟨_, rfl, .inl rfl⟩
      · exact ⟨_, rfl, .inr rfl⟩
    by_cases h2 : 2 < w
    · obtain ⟨r, a4, b4, r0, r1, e4⟩ := tk a3 b3 (w - 1) (by omega) (by omega)
      obtain ⟨q, a5, b5, q0, q1, e5⟩ := tk a4 b4 5 (by omega) (by omega)
      have hm := mul_small (w := w) (r := q - 2) (by omega) (by omega) (by omega) (by omega)
      refine ⟨.unit to (1 + r + w * (q - 2)), a5, b5, ⟨⟨to0, to1⟩, by omega, fun z => by omega, fun _ => ?_⟩, ?_⟩
      · rw [Int.add_mul_emod_self_left, Int.emod_eq_of_lt (by omega) (by omega)]
        omega
      · rw [run_eq h13]
        have mo : mulOk w (q - 2) = true := by
          unfold mulOk m64
          have : decide (-(2 ^ 64 : Int) < w) = true ∧ decide (w < (2 ^ 64 : Int)) = true := ⟨decide_eq_true (Int.lt_of_lt_of_le (by decide) (show (0 : Int) ≤ w by omega)), decide_eq_true (Int.lt_of_le_of_lt (show w ≤ 97 by omega) (by decide))⟩
          rw [this.1, this.2]
          rfl
        simp [F13, b13, Row.enc, e1, e2, e3, e4, e5, h2, mo, runF, lentR, exs, ex, ev, evT, evs, evb, eva, evr, evTs, evI, evC, bw_var, bw_cst, bw_glob, bw_bin, bw_neg, bw_cmp, bw_chain, bw_and, bw_or, bw_not, bw_ite, bw_tup, bw_lst, bw_call, bw_callK, pick, bw_bi, bw_isi, bw_mu, bw_mt, bw_ix, bw_sl, bw_rev, bw_slen, bw_six, bw_lc, bw_lc2, bw_sset, bw_cp, bw_maxd, bw_dsp, bw_dget, bw_dix, bw_dzip, bw_gget, bw_gix, bw_ch3, bw_rpr, kOf, gt, rd, rds, ra, ras, toD_d, toD_l, toD_s, toD_k, frz_d, frz_l, frz_s, frz_k, tru_bool, tru_int, tru_none, tru_list, tru_tuple, bin_add_int, bin_add_list, bin_add_tuple, bin_add_str, bin_sub_int, bin_mul_int, bin_mul_list, bin_mul_tuple, bin_fdiv_int, bin_mod_int, bin_pow_int, cmp_eq_int, cmp_ne_int, cmp_lt, cmp_le, cmp_gt, cmp_ge, cmp_isin, cmp_notin, cmp_is, cmp_isnot, cmpLt_int, cmpLe_int, isD_none, isD_bool, isNone, bi_len_list, bi_len_tuple, bi_abs, bi_max2, bi_min2, bi_sum, bi_all, bi_any, bi_list_list, bi_list_tuple, bi_tuple_list, bi_tuple_tuple, bi_sorted_list, bi_sorted_tuple, bi_int_int, bi_int_bool, bi_maxL, bi_minL, items_list, items_tuple, intsD, isT, mu_append, mu_pop, mu_extend, DI.ix_list, DI.ix_tuple, DI.sl_list, DI.sl_tuple, partI, cutD, HT.sIx, atI_0, atI_1, atI_2, atI_3, L2.ixN, setS, bt_nm, bt_tp_tuple, bt_tp_list, bt_stp, bt_stp_list, bts_nil, bts_cons, CTs.len, lcL, lcC, forL, iter_list, iter_tuple, wipeR, restoreR, wb, outR, retR, setPar, Arg.slot?, notTS, limLen, kindOf, List.filterMap_cons, List.filterMap_nil]
    · refine ⟨.unit to c, a3, b3, ⟨⟨to0, to1⟩, by omega, fun _ => hc, fun h0 => ?_⟩, ?_⟩
      · have : w = 2 := by omega
        subst this
        rcases hc with rfl | rfl <;> decide
      · rw [run_eq h13]
        simp [F13, b13, Row.enc, e1, e2, e3, h2, runF, lentR, exs, ex, ev, evT, evs, evb, eva, evr, evTs, evI, evC, bw_var, bw_cst, bw_glob, bw_bin, bw_neg, bw_cmp, bw_chain, bw_and, bw_or, bw_not, bw_ite, bw_tup, bw_lst, bw_call, bw_callK, pick, bw_bi, bw_isi, bw_mu, bw_mt, bw_ix, bw_sl, bw_rev, bw_slen, bw_six, bw_lc, bw_lc2, bw_sset, bw_cp, bw_maxd, bw_dsp, bw_dget, bw_dix, bw_dzip, bw_gget, bw_gix, bw_ch3, bw_rpr, kOf, gt, rd, rds, ra, ras, toD_d, toD_l, toD_s, toD_k, frz_d, frz_l, frz_s, frz_k, tru_bool, tru_int, tru_none, tru_list, tru_tuple, bin_add_int, bin_add_list, bin_add_tuple, bin_add_str, bin_sub_int, bin_mul_int, bin_mul_list, bin_mul_tuple, bin_fdiv_int, bin_mod_int, bin_pow_int, cmp_eq_int, cmp_ne_int, cmp_lt, cmp_le, cmp_gt, cmp_ge, cmp_isin, cmp_notin, cmp_is, cmp_isnot, cmpLt_int, cmpLe_int, isD_none, isD_bool, isNone, bi_len_list, bi_len_tuple, bi_abs, bi_max2, bi_min2, bi_sum, bi_all, bi_any, bi_list_list, bi_list_tuple, bi_tuple_list, bi_tuple_tuple, bi_sorted_list, bi_sorted_tuple, bi_int_int, bi_int_bool, bi_maxL, bi_minL, items_list, items_tuple, intsD, isT, mu_append, mu_pop, mu_extend, DI.ix_list, DI.ix_tuple, DI.sl_list, DI.sl_tuple, partI, cutD, HT.sIx, atI_0, atI_1, atI_2, atI_3, L2.ixN, setS, bt_nm, bt_tp_tuple, bt_tp_list, bt_stp, bt_stp_list, bts_nil, bts_cons, CTs.len, lcL, lcC, forL, iter_list, iter_tuple, wipeR, restoreR, wb, outR, retR, setPar, Arg.slot?, notTS, limLen, kindOf, List.filterMap_cons, List.filterMap_nil]
  · obtain ⟨c, a3, b3, hc, e3⟩ := numberOk (wf := wf) (n := n + 1) h8 h11 a2 b2
    have so := someOk (wf := wf) (n := n) h8 h9 h12
    obtain ⟨g, a4, b4, g1, g2, g3, e4⟩ := so a3 b3 ni 2 (0 - 1) (by omega) (by omega)
    obtain ⟨o, a5, b5, o1, o2, o3, e5⟩ := so a4 b4 nb (mostO w) to (by omega) (by unfold mostO; split <;> omega)
    refine ⟨.gain to c g o, a5, b5, ⟨⟨to0, to1⟩, hc, ⟨g2, g1, fun x hx => ⟨(g3 x hx).1, (g3 x hx).2.1⟩⟩, ⟨o2, o1, fun x hx => ⟨(o3 x hx).1, (o3 x hx).2.1⟩⟩, fun h => (o3 to h).2.2 rfl⟩, ?_⟩
    rw [run_eq h13]
    by_cases zw : w = 0
    · subst zw
      simp [mostO] at e5
      simp at e4
      simp [F13, b13, Row.enc, e1, e2, e3, e4, e5, z6, runF, lentR, exs, ex, ev, evT, evs, evb, eva, evr, evTs, evI, evC, bw_var, bw_cst, bw_glob, bw_bin, bw_neg, bw_cmp, bw_chain, bw_and, bw_or, bw_not, bw_ite, bw_tup, bw_lst, bw_call, bw_callK, pick, bw_bi, bw_isi, bw_mu, bw_mt, bw_ix, bw_sl, bw_rev, bw_slen, bw_six, bw_lc, bw_lc2, bw_sset, bw_cp, bw_maxd, bw_dsp, bw_dget, bw_dix, bw_dzip, bw_gget, bw_gix, bw_ch3, bw_rpr, kOf, gt, rd, rds, ra, ras, toD_d, toD_l, toD_s, toD_k, frz_d, frz_l, frz_s, frz_k, tru_bool, tru_int, tru_none, tru_list, tru_tuple, bin_add_int, bin_add_list, bin_add_tuple, bin_add_str, bin_sub_int, bin_mul_int, bin_mul_list, bin_mul_tuple, bin_fdiv_int, bin_mod_int, bin_pow_int, cmp_eq_int, cmp_ne_int, cmp_lt, cmp_le, cmp_gt, cmp_ge, cmp_isin, cmp_notin, cmp_is, cmp_isnot, cmpLt_int, cmpLe_int, isD_none, isD_bool, isNone, bi_len_list, bi_len_tuple, bi_abs, bi_max2, bi_min2, bi_sum, bi_all, bi_any, bi_list_list, bi_list_tuple, bi_tuple_list, bi_tuple_tuple, bi_sorted_list, bi_sorted_tuple, bi_int_int, bi_int_bool, bi_maxL, bi_minL, items_list, items_tuple, intsD, isT, mu_append, mu_pop, mu_extend, DI.ix_list, DI.ix_tuple, DI.sl_list, DI.sl_tuple, partI, cutD, HT.sIx, atI_0, atI_1, atI_2, atI_3, L2.ixN, setS, bt_nm, bt_tp_tuple, bt_tp_list, bt_stp, bt_stp_list, bts_nil, bts_cons, CTs.len, lcL, lcC, forL, iter_list, iter_tuple, wipeR, restoreR, wb, outR, retR, setPar, Arg.slot?, notTS, limLen, kindOf, List.filterMap_cons, List.filterMap_nil]
    · simp [mostO, zw] at e5
      simp at e4
      simp [F13, b13, Row.enc, e1, e2, e3, e4, e5, z6, zw, runF, lentR, exs, ex, ev, evT, evs, evb, eva, evr, evTs, evI, evC, bw_var, bw_cst, bw_glob, bw_bin, bw_neg, bw_cmp, bw_chain, bw_and, bw_or, bw_not, bw_ite, bw_tup, bw_lst, bw_call, bw_callK, pick, bw_bi, bw_isi, bw_mu, bw_mt, bw_ix, bw_sl, bw_rev, bw_slen, bw_six, bw_lc, bw_lc2, bw_sset, bw_cp, bw_maxd, bw_dsp, bw_dget, bw_dix, bw_dzip, bw_gget, bw_gix, bw_ch3, bw_rpr, kOf, gt, rd, rds, ra, ras, toD_d, toD_l, toD_s, toD_k, frz_d, frz_l, frz_s, frz_k, tru_bool, tru_int, tru_none, tru_list, tru_tuple, bin_add_int, bin_add_list, bin_add_tuple, bin_add_str, bin_sub_int, bin_mul_int, bin_mul_list, bin_mul_tuple, bin_fdiv_int, bin_mod_int, bin_pow_int, cmp_eq_int, cmp_ne_int, cmp_lt, cmp_le, cmp_gt, cmp_ge, cmp_isin, cmp_notin, cmp_is, cmp_isnot, cmpLt_int, cmpLe_int, isD_none, isD_bool, isNone, bi_len_list, bi_len_tuple, bi_abs, bi_max2, bi_min2, bi_sum, bi_all, bi_any, bi_list_list, bi_list_tuple, bi_tuple_list, bi_tuple_tuple, bi_sorted_list, bi_sorted_tuple, bi_int_int, bi_int_bool, bi_maxL, bi_minL, items_list, items_tuple, intsD, isT, mu_append, mu_pop, mu_extend, DI.ix_list, DI.ix_tuple, DI.sl_list, DI.sl_tuple, partI, cutD, HT.sIx, atI_0, atI_1, atI_2, atI_3, L2.ixN, setS, bt_nm, bt_tp_tuple, bt_tp_list, bt_stp, bt_stp_list, bts_nil, bts_cons, CTs.len, lcL, lcC, forL, iter_list, iter_tuple, wipeR, restoreR, wb, outR, retR, setPar, Arg.slot?, notTS, limLen, kindOf, List.filterMap_cons, List.filterMap_nil]
def ProgOk (Φ : Phi) : Prop := ∀ (a b : Int) (nb ni : Nat) (w : Int) (k : Nat), 1 ≤ nb → nb ≤ 1000 → ni ≤ 1000 → w ∈ worlds → k ≤ 1000 → ∃ (rs : List Row) (a' b' : Int), rs.length ≤ k ∧ (∀ r ∈ rs, RowGood nb ni w r) ∧
  Φ 14 [feedR a b, .d (.int (nb : Nat)), .d (.int (ni : Nat)), .d (.int w), .d (.int (k : Nat))] = some (.l (rs.map Row.enc), [feedR a' b', .d (.int (nb : Nat)), .d (.int (ni : Nat)), .d (.int w), .d (.int (k : Nat))])
theorem rows_of {l : List PyData} {P : Row → Prop} (h : ∀ x ∈ l, ∃ i : Row, x = i.enc ∧ P i) : ∃ ns : List Row, l = ns.map Row.enc ∧ ∀ n ∈ ns, P n := by
  induction l with
  | nil => exact ⟨[], rfl, by simp⟩
  | cons x l ih =>
    obtain ⟨ns, e, q⟩ := ih fun y hy => h y (List.mem_cons_of_mem _ hy)
    obtain ⟨i, e1, q1⟩ := h x List.mem_cons_self
    exact ⟨i :: ns, by rw [e1, e]; rfl, fun n hn => (List.mem_cons.mp hn).elim (fun z => z ▸ q1) (q n)⟩
theorem progOk {T : Tab} {wf n : Nat} (h8 : T 8 = some F8) (h9 : T 9 = some F9) (h11 : T 11 = some F11) (h12 : T 12 = some F12) (h13 : T 13 = some F13) (h14 : T 14 = some F14) : ProgOk (DI.Run T wf (n + 5)) := by
  intro a b nb ni w k hb1 hb2 hi hw hk
  have ro := rowOk (wf := wf) (n := n) h8 h9 h11 h12 h13
  obtain ⟨r, a1, b1, r0, r1, e1⟩ := takeOk (wf := wf) (n := n + 3) h8 a b (k + 1) (by omega) (by omega)
  obtain ⟨q, rfl⟩ : ∃ q : Nat, r = q := ⟨r.toNat, by omega⟩
  have h1 : evI (DI.Run T wf (n + 4)) (.rng1 (.call 8 [true, false] (.cons (.var 0) (.cons (.bin .add (.var 4) (.cst (.int 1))) .nil)))) [some (feedR a b), some (.d (.int (nb : Nat))), some (.d (.int (ni : Nat))), some (.d (.int w)), some (.d (.int (k : Nat))), none] =
      some ((List.range q).map fun (i : Nat) => .int (i : Int), [some (feedR a1 b1), some (.d (.int (nb : Nat))), some (.d (.int (ni : Nat))), some (.d (.int w)), some (.d (.int (k : Nat))), none]) := rng_ev (by simp [e1, runF, lentR, exs, ex, ev, evT, evs, evb, eva, evr, evTs, evI, evC, bw_var, bw_cst, bw_glob, bw_bin, bw_neg, bw_cmp, bw_chain, bw_and, bw_or, bw_not, bw_ite, bw_tup, bw_lst, bw_call, bw_callK, pick, bw_bi, bw_isi, bw_mu, bw_mt, bw_ix, bw_sl, bw_rev, bw_slen, bw_six, bw_lc, bw_lc2, bw_sset, bw_cp, bw_maxd, bw_dsp, bw_dget, bw_dix, bw_dzip, bw_gget, bw_gix, bw_ch3, bw_rpr, kOf, gt, rd, rds, ra, ras, toD_d, toD_l, toD_s, toD_k, frz_d, frz_l, frz_s, frz_k, tru_bool, tru_int, tru_none, tru_list, tru_tuple, bin_add_int, bin_add_list, bin_add_tuple, bin_add_str, bin_sub_int, bin_mul_int, bin_mul_list, bin_mul_tuple, bin_fdiv_int, bin_mod_int, bin_pow_int, cmp_eq_int, cmp_ne_int, cmp_lt, cmp_le, cmp_gt, cmp_ge, cmp_isin, cmp_notin, cmp_is, cmp_isnot, cmpLt_int, cmpLe_int, isD_none, isD_bool, isNone, bi_len_list, bi_len_tuple, bi_abs, bi_max2, bi_min2, bi_sum, bi_all, bi_any, bi_list_list, bi_list_tuple, bi_tuple_list, bi_tuple_tuple, bi_sorted_list, bi_sorted_tuple, bi_int_int, bi_int_bool, bi_maxL, bi_minL, items_list, items_tuple, intsD, isT, mu_append, mu_pop, mu_extend, DI.ix_list, DI.ix_tuple, DI.sl_list, DI.sl_tuple, partI, cutD, HT.sIx, atI_0, atI_1, atI_2, atI_3, L2.ixN, setS, bt_nm, bt_tp_tuple, bt_tp_list, bt_stp, bt_stp_list, bts_nil, bts_cons, CTs.len, lcL, lcC, forL, iter_list, iter_tuple, wipeR, restoreR, wb, outR, retR, setPar, Arg.slot?, notTS, limLen, kindOf, List.filterMap_cons, List.filterMap_nil]) (by omega)
  obtain ⟨ys, ρ', h2, ⟨a2, b2, rfl⟩, q2, l2⟩ := lcL_inv (f := lcF (DI.Run T wf (n + 4)) [5] (.call 13 [true, false, false, false] (.cons (.var 0) (.cons (.var 1) (.cons (.var 2) (.cons (.var 3) .nil))))) (.nm 5) .nil) (xs := (List.range q).map fun (i : Nat) => .int (i : Int))
    (fun ρ => ∃ a b, ρ = [some (feedR a b), some (.d (.int (nb : Nat))), some (.d (.int (ni : Nat))), some (.d (.int w)), some (.d (.int (k : Nat))), none]) (fun y => ∃ i : Row, y = i.enc ∧ RowGood nb ni w i) (fun x _ ρ ⟨a, b, e⟩ => by
      subst e
      obtain ⟨y, a', b', hy, e⟩ := ro a b nb ni w hb1 hb2 hi hw
      refine ⟨y.enc, [some (feedR a' b'), some (.d (.int (nb : Nat))), some (.d (.int (ni : Nat))), some (.d (.int w)), some (.d (.int (k : Nat))), none], ?_, ⟨a', b', rfl⟩, y, rfl, hy⟩
      simp [lcF, evTs, e, runF, lentR, exs, ex, ev, evT, evs, evb, eva, evr, evTs, evI, evC, bw_var, bw_cst, bw_glob, bw_bin, bw_neg, bw_cmp, bw_chain, bw_and, bw_or, bw_not, bw_ite, bw_tup, bw_lst, bw_call, bw_callK, pick, bw_bi, bw_isi, bw_mu, bw_mt, bw_ix, bw_sl, bw_rev, bw_slen, bw_six, bw_lc, bw_lc2, bw_sset, bw_cp, bw_maxd, bw_dsp, bw_dget, bw_dix, bw_dzip, bw_gget, bw_gix, bw_ch3, bw_rpr, kOf, gt, rd, rds, ra, ras, toD_d, toD_l, toD_s, toD_k, frz_d, frz_l, frz_s, frz_k, tru_bool, tru_int, tru_none, tru_list, tru_tuple, bin_add_int, bin_add_list, bin_add_tuple, bin_add_str, bin_sub_int, bin_mul_int, bin_mul_list, bin_mul_tuple, bin_fdiv_int, bin_mod_int, bin_pow_int, cmp_eq_int, cmp_ne_int, cmp_lt, cmp_le, cmp_gt, cmp_ge, cmp_isin, cmp_notin, cmp_is, cmp_isnot, cmpLt_int, cmpLe_int, isD_none, isD_bool, isNone, bi_len_list, bi_len_tuple, bi_abs, bi_max2, bi_min2, bi_sum, bi_all, bi_any, bi_list_list, bi_list_tuple, bi_tuple_list, bi_tuple_tuple, bi_sorted_list, bi_sorted_tuple, bi_int_int, bi_int_bool, bi_maxL, bi_minL, items_list, items_tuple, intsD, isT, mu_append, mu_pop, mu_extend, DI.ix_list, DI.ix_tuple, DI.sl_list, DI.sl_tuple, partI, cutD, HT.sIx, atI_0, atI_1, atI_2, atI_3, L2.ixN, setS, bt_nm, bt_tp_tuple, bt_tp_list, bt_stp, bt_stp_list, bts_nil, bts_cons, CTs.len, lcL, lcC, forL, iter_list, iter_tuple, wipeR, restoreR, wb, outR, retR, setPar, Arg.slot?, notTS, limLen, kindOf, List.filterMap_cons, List.filterMap_nil]) (ρ := [some (feedR a1 b1), some (.d (.int (nb : Nat))), some (.d (.int (ni : Nat))), some (.d (.int w)), some (.d (.int (k : Nat))), none]) ⟨a1, b1, rfl⟩
  obtain ⟨ns, rfl, hns⟩ := rows_of q2
  have hlen : ns.length = q := by simpa using l2
  refine ⟨ns, a2, b2, by omega, hns, ?_⟩
  have e3 : ev (DI.Run T wf (n + 4)) c0_14 [some (feedR a b), some (.d (.int (nb : Nat))), some (.d (.int (ni : Nat))), some (.d (.int w)), some (.d (.int (k : Nat))), none] = _ := ev_lc h1 h2 (by rw [List.length_map, hlen]; unfold limLen; omega)
  rw [run_eq h14]
  simp [F14, b14, e3, wc0_14, runF, lentR, exs, ex, ev, evT, evs, evb, eva, evr, evTs, evI, evC, bw_var, bw_cst, bw_glob, bw_bin, bw_neg, bw_cmp, bw_chain, bw_and, bw_or, bw_not, bw_ite, bw_tup, bw_lst, bw_call, bw_callK, pick, bw_bi, bw_isi, bw_mu, bw_mt, bw_ix, bw_sl, bw_rev, bw_slen, bw_six, bw_lc, bw_lc2, bw_sset, bw_cp, bw_maxd, bw_dsp, bw_dget, bw_dix, bw_dzip, bw_gget, bw_gix, bw_ch3, bw_rpr, kOf, gt, rd, rds, ra, ras, toD_d, toD_l, toD_s, toD_k, frz_d, frz_l, frz_s, frz_k, tru_bool, tru_int, tru_none, tru_list, tru_tuple, bin_add_int, bin_add_list, bin_add_tuple, bin_add_str, bin_sub_int, bin_mul_int, bin_mul_list, bin_mul_tuple, bin_fdiv_int, bin_mod_int, bin_pow_int, cmp_eq_int, cmp_ne_int, cmp_lt, cmp_le, cmp_gt, cmp_ge, cmp_isin, cmp_notin, cmp_is, cmp_isnot, cmpLt_int, cmpLe_int, isD_none, isD_bool, isNone, bi_len_list, bi_len_tuple, bi_abs, bi_max2, bi_min2, bi_sum, bi_all, bi_any, bi_list_list, bi_list_tuple, bi_tuple_list, bi_tuple_tuple, bi_sorted_list, bi_sorted_tuple, bi_int_int, bi_int_bool, bi_maxL, bi_minL, items_list, items_tuple, intsD, isT, mu_append, mu_pop, mu_extend, DI.ix_list, DI.ix_tuple, DI.sl_list, DI.sl_tuple, partI, cutD, HT.sIx, atI_0, atI_1, atI_2, atI_3, L2.ixN, setS, bt_nm, bt_tp_tuple, bt_tp_list, bt_stp, bt_stp_list, bts_nil, bts_cons, CTs.len, lcL, lcC, forL, iter_list, iter_tuple, wipeR, restoreR, wb, outR, retR, setPar, Arg.slot?, notTS, limLen, kindOf, List.filterMap_cons, List.filterMap_nil]
end DS

/-! S12: small things: items popped, sets of ints. -/
namespace DS
open PySem DI DB
theorem erase_map {α β : Type} (f : α → β) : ∀ (l : List α) (j : Nat), (l.map f).eraseIdx j = (l.eraseIdx j).map f
  | [], _ => rfl
  | _ :: _, 0 => rfl
  | a :: l, j + 1 => by simp [erase_map f l j]
theorem perm_erase {l : List Int} {j : Nat} (h : j < l.length) : (l[j] :: l.eraseIdx j).Perm l := by
  induction l generalizing j with
  | nil => simp at h
  | cons a l ih =>
    cases j with
    | zero => simp
    | succ j =>
      have h' : j < l.length := by simpa using h
      simp only [List.getElem_cons_succ, List.eraseIdx_cons_succ]
      exact (List.Perm.swap _ _ _).trans ((ih h').cons a)
theorem popAt_ints {l : List Int} {r : Int} (r0 : 0 ≤ r) (r1 : r < l.length) (hl : l.length ≤ 1000) : muF .popAt (l.map PyData.int) [.int r] = some (.int (l[r.toNat]'(by omega)), (l.eraseIdx r.toNat).map .int) := by
  have hj : r.toNat < l.length := by omega
  have hs := seqI r l.length r0 r1
  have e1 : -9223372036854775808 ≤ r := by omega
  have e2 : r < 9223372036854775808 := by omega
  simp [muF, hs, e1, e2, hj, erase_map]
theorem intsD_map : ∀ ms : List Int, intsD (ms.map PyData.int) = some ms
  | [] => rfl
  | k :: r => by
    show (intsD (r.map PyData.int)).map (k :: ·) = _
    rw [intsD_map r]
    rfl
theorem sset_ints {ns : List Int} (h : ns.length < 64) : ssetD (ns.map .int) = some ((riseU ns).map .int) := by
  unfold ssetD
  rw [intsD_map, Option.bind_some, if_pos h]
end DS

/-! K36P: rings, by going through all of them. -/
namespace K36
open PySem DI DB DS
def T0 : Tab := fun i => ([(65, F65), (66, F66), (67, F67), (68, F68), (84, F84), (85, F85), (86, F86), (87, F87), (88, F88), (7, F7), (8, F8), (70, F70), (71, F71), (116, F116), (117, F117), (118, F118), (119, F119)] : List (Nat × FD)).lookup i
structure Has (T : Tab) : Prop where
  eq : T = T0
def perms4 : List (List Int) := [[1, 2, 3, 4], [1, 2, 4, 3], [1, 3, 2, 4], [1, 3, 4, 2], [1, 4, 2, 3], [1, 4, 3, 2], [2, 1, 3, 4], [2, 1, 4, 3], [2, 3, 1, 4], [2, 3, 4, 1], [2, 4, 1, 3], [2, 4, 3, 1], [3, 1, 2, 4], [3, 1, 4, 2], [3, 2, 1, 4], [3, 2, 4, 1], [3, 4, 1, 2], [3, 4, 2, 1], [4, 1, 2, 3], [4, 1, 3, 2], [4, 2, 1, 3], [4, 2, 3, 1], [4, 3, 1, 2], [4, 3, 2, 1]]
def tp (l : List Int) : PyData := .tuple (l.map .int)
def ringOf (p : List Int) : PyData := match p with
  | [1, 2, 3, 4] => tp [1, 2, 3, 4, 0]
  | [1, 2, 4, 3] => tp [1, 2, 4, 0, 3]
  | [1, 3, 2, 4] => tp [1, 3, 4, 2, 0]
  | [1, 3, 4, 2] => tp [1, 3, 0, 4, 2]
  | [1, 4, 2, 3] => tp [1, 4, 3, 0, 2]
  | [1, 4, 3, 2] => tp [1, 4, 0, 2, 3]
  | [2, 1, 3, 4] => tp [2, 3, 1, 4, 0]
  | [2, 1, 4, 3] => tp [2, 4, 1, 0, 3]
  | [2, 3, 1, 4] => tp [2, 4, 3, 1, 0]
  | [2, 3, 4, 1] => tp [2, 0, 3, 4, 1]
  | [2, 4, 1, 3] => tp [2, 3, 4, 0, 1]
  | [2, 4, 3, 1] => tp [2, 0, 4, 1, 3]
  | [3, 1, 2, 4] => tp [3, 2, 4, 1, 0]
  | [3, 1, 4, 2] => tp [3, 4, 0, 1, 2]
  | [3, 2, 1, 4] => tp [3, 4, 1, 2, 0]
  | [3, 2, 4, 1] => tp [3, 0, 4, 2, 1]
  | [3, 4, 1, 2] => tp [3, 2, 0, 4, 1]
  | [3, 4, 2, 1] => tp [3, 0, 1, 4, 2]
  | [4, 1, 2, 3] => tp [4, 2, 3, 0, 1]
  | [4, 1, 3, 2] => tp [4, 3, 0, 2, 1]
  | [4, 2, 1, 3] => tp [4, 3, 1, 0, 2]
  | [4, 2, 3, 1] => tp [4, 0, 3, 1, 2]
  | [4, 3, 1, 2] => tp [4, 2, 0, 1, 3]
  | [4, 3, 2, 1] => tp [4, 0, 1, 2, 3]
  | _ => .none
theorem perm_mem {pl : List Int} (h : pl.Perm [1, 2, 3, 4]) : pl ∈ perms4 := by
  have hl : pl.length = 4 := h.length_eq
  have hm : ∀ x ∈ pl, x ∈ ([1, 2, 3, 4] : List Int) := fun x hx => h.mem_iff.mp hx
  have hn : pl.Nodup := h.nodup_iff.mpr (by decide)
  match pl, hl with
  | [a, b, c, d], _ =>
    have key : ∀ a ∈ ([1, 2, 3, 4] : List Int), ∀ b ∈ ([1, 2, 3, 4] : List Int), ∀ c ∈ ([1, 2, 3, 4] : List Int), ∀ d ∈ ([1, 2, 3, 4] : List Int), [a, b, c, d].Nodup → [a, b, c, d] ∈ perms4 := by decide +kernel
    exact key a (hm a (by simp)) b (hm b (by simp)) c (hm c (by simp)) d (hm d (by simp)) hn
/-! ### what the defs tell of rings -/
def res : Option (R × List R) → PyData
  | some (.d x, _) => x
  | _ => .none
abbrev K0 : Nat := 60
def call1 (f : Nat) (a : PyData) : Option (R × List R) := RunF K0 T0 100 9 f [.d a]
def call2 (f : Nat) (a b : PyData) : Option (R × List R) := RunF K0 T0 100 9 f [.d a, .d b]
theorem of_F {f : Nat} {as : List R} {x : R × List R} (h : RunF K0 T0 100 9 f as = some x) : DI.Run T0 100 9 f as = some x := RunF_le K0 T0 100 9 f as x h
def ixL (x : Int) : List Int → List Int → Int
  | y :: ys, z :: zs => if x = y then z else ixL x ys zs
  | _, _ => 0
def rbL (p q : List Int) : List Int := [0, 1, 2, 3, 4].map fun x => ixL x (0 :: q) (0 :: p)
def bkL (l : List Int) : List Int := [0, 1, 2, 3, 4].map fun x => ixL x l [0, 1, 2, 3, 4]
def partsL : List (List Int × List Int × List Int) := [([1, 2, 3, 4], [3, 0, 4, 2, 1], [3, 2, 0, 4, 1]), ([1, 2, 4, 3], [4, 0, 3, 1, 2], [4, 2, 0, 1, 3]), ([1, 3, 2, 4], [2, 0, 3, 4, 1], [2, 3, 4, 0, 1]), ([1, 3, 4, 2], [4, 0, 1, 2, 3], [4, 3, 1, 0, 2]), ([1, 4, 2, 3], [2, 0, 4, 1, 3], [2, 4, 3, 1, 0]), ([1, 4, 3, 2], [3, 0, 1, 4, 2], [3, 4, 1, 2, 0]), ([2, 1, 3, 4], [3, 4, 0, 1, 2], [3, 0, 1, 4, 2]), ([2, 1, 4, 3], [4, 3, 0, 2, 1], [4, 0, 1, 2, 3]), ([2, 3, 1, 4], [1, 3, 0, 4, 2], [1, 4, 3, 0, 2]), ([2, 3, 4, 1], [4, 2, 0, 1, 3], [4, 2, 3, 0, 1]), ([2, 4, 1, 3], [1, 4, 0, 2, 3], [1, 3, 4, 2, 0]), ([2, 4, 3, 1], [3, 2, 0, 4, 1], [3, 2, 4, 1, 0]), ([3, 1, 2, 4], [2, 4, 1, 0, 3], [2, 0, 4, 1, 3]), ([3, 1, 4, 2], [4, 2, 3, 0, 1], [4, 0, 3, 1, 2]), ([3, 2, 1, 4], [1, 2, 4, 0, 3], [1, 4, 0, 2, 3]), ([3, 2, 4, 1], [4, 3, 1, 0, 2], [4, 3, 0, 2, 1]), ([3, 4, 1, 2], [1, 4, 3, 0, 2], [1, 2, 3, 4, 0]), ([3, 4, 2, 1], [2, 3, 4, 0, 1], [2, 3, 1, 4, 0]), ([4, 1, 2, 3], [2, 3, 1, 4, 0], [2, 0, 3, 4, 1]), ([4, 1, 3, 2], [3, 2, 4, 1, 0], [3, 0, 4, 2, 1]), ([4, 2, 1, 3], [1, 2, 3, 4, 0], [1, 3, 0, 4, 2]), ([4, 2, 3, 1], [3, 4, 1, 2, 0], [3, 4, 0, 1, 2]), ([4, 3, 1, 2], [1, 3, 4, 2, 0], [1, 2, 4, 0, 3]), ([4, 3, 2, 1], [2, 4, 3, 1, 0], [2, 4, 1, 0, 3])]
theorem tab {α β : Type} {l : List α} {f g : α → β} (h : l.map f = l.map g) {x : α} (hx : x ∈ l) : f x = g x := List.map_inj_left.mp h x hx
theorem t1_0 : perms4.map (fun q => call2 84 (ringOf [1, 2, 3, 4]) (ringOf q)) = perms4.map (fun q => some (.d (tp (rbL [1, 2, 3, 4] q)), [.d (ringOf [1, 2, 3, 4]), .d (ringOf q)])) := by kernel_rfl
theorem t1_1 : perms4.map (fun q => call2 84 (ringOf [1, 2, 4, 3]) (ringOf q)) = perms4.map (fun q => some (.d (tp (rbL [1, 2, 4, 3] q)), [.d (ringOf [1, 2, 4, 3]), .d (ringOf q)])) := by kernel_rfl
theorem t1_2 : perms4.map (fun q => call2 84 (ringOf [1, 3, 2, 4]) (ringOf q)) = perms4.map (fun q => some (.d (tp (rbL [1, 3, 2, 4] q)), [.d (ringOf [1, 3, 2, 4]), .d (ringOf q)])) := by kernel_rfl
theorem t1_3 : perms4.map (fun q => call2 84 (ringOf [1, 3, 4, 2]) (ringOf q)) = perms4.map (fun q => some (.d (tp (rbL [1, 3, 4, 2] q)), [.d (ringOf [1, 3, 4, 2]), .d (ringOf q)])) := by kernel_rfl
theorem t1_4 : perms4.map (fun q => call2 84 (ringOf [1, 4, 2, 3]) (ringOf q)) = perms4.map (fun q => some (.d (tp (rbL [1, 4, 2, 3] q)), [.d (ringOf [1, 4, 2, 3]), .d (ringOf q)])) := by kernel_rfl
theorem t1_5 : perms4.map (fun q => call2 84 (ringOf [1, 4, 3, 2]) (ringOf q)) = perms4.map (fun q => some (.d (tp (rbL [1, 4, 3, 2] q)), [.d (ringOf [1, 4, 3, 2]), .d (ringOf q)])) := by kernel_rfl
theorem t1_6 : perms4.map (fun q => call2 84 (ringOf [2, 1, 3, 4]) (ringOf q)) = perms4.map (fun q => some (.d (tp (rbL [2, 1, 3, 4] q)), [.d (ringOf [2, 1, 3, 4]), .d (ringOf q)])) := by kernel_rfl
theorem t1_7 : perms4.map (fun q => call2 84 (ringOf [2, 1, 4, 3]) (ringOf q)) = perms4.map (fun q => some (.d (tp (rbL [2, 1, 4, 3] q)), [.d (ringOf [2, 1, 4, 3]), .d (ringOf q)])) := by kernel_rfl
theorem t1_8 : perms4.map (fun q => call2 84 (ringOf [2, 3, 1, 4]) (ringOf q)) = perms4.map (fun q => some (.d (tp (rbL [2, 3, 1, 4] q)), [.d (ringOf [2, 3, 1, 4]), .d (ringOf q)])) := by kernel_rfl
theorem t1_9 : perms4.map (fun q => call2 84 (ringOf [2, 3, 4, 1]) (ringOf q)) = perms4.map (fun q => some (.d (tp (rbL [2, 3, 4, 1] q)), [.d (ringOf [2, 3, 4, 1]), .d (ringOf q)])) := by kernel_rfl
theorem t1_10 : perms4.map (fun q => call2 84 (ringOf [2, 4, 1, 3]) (ringOf q)) = perms4.map (fun q => some (.d (tp (rbL [2, 4, 1, 3] q)), [.d (ringOf [2, 4, 1, 3]), .d (ringOf q)])) := by kernel_rfl
theorem t1_11 : perms4.map (fun q => call2 84 (ringOf [2, 4, 3, 1]) (ringOf q)) = perms4.map (fun q => some (.d (tp (rbL [2, 4, 3, 1] q)), [.d (ringOf [2, 4, 3, 1]), .d (ringOf q)])) := by kernel_rfl
theorem t1_12 : perms4.map (fun q => call2 84 (ringOf [3, 1, 2, 4]) (ringOf q)) = perms4.map (fun q => some (.d (tp (rbL [3, 1, 2, 4] q)), [.d (ringOf [3, 1, 2, 4]), .d (ringOf q)])) := by kernel_rfl
theorem t1_13 : perms4.map (fun q => call2 84 (ringOf [3, 1, 4, 2]) (ringOf q)) = perms4.map (fun q => some (.d (tp (rbL [3, 1, 4, 2] q)), [.d (ringOf [3, 1, 4, 2]), .d (ringOf q)])) := by kernel_rfl
theorem t1_14 : perms4.map (fun q => call2 84 (ringOf [3, 2, 1, 4]) (ringOf q)) = perms4.map (fun q => some (.d (tp (rbL [3, 2, 1, 4] q)), [.d (ringOf [3, 2, 1, 4]), .d (ringOf q)])) := by kernel_rfl
theorem t1_15 : perms4.map (fun q => call2 84 (ringOf [3, 2, 4, 1]) (ringOf q)) = perms4.map (fun q => some (.d (tp (rbL [3, 2, 4, 1] q)), [.d (ringOf [3, 2, 4, 1]), .d (ringOf q)])) := by kernel_rfl
theorem t1_16 : perms4.map (fun q => call2 84 (ringOf [3, 4, 1, 2]) (ringOf q)) = perms4.map (fun q => some (.d (tp (rbL [3, 4, 1, 2] q)), [.d (ringOf [3, 4, 1, 2]), .d (ringOf q)])) := by kernel_rfl
theorem t1_17 : perms4.map (fun q => call2 84 (ringOf [3, 4, 2, 1]) (ringOf q)) = perms4.map (fun q => some (.d (tp (rbL [3, 4, 2, 1] q)), [.d (ringOf [3, 4, 2, 1]), .d (ringOf q)])) := by kernel_rfl
theorem t1_18 : perms4.map (fun q => call2 84 (ringOf [4, 1, 2, 3]) (ringOf q)) = perms4.map (fun q => some (.d (tp (rbL [4, 1, 2, 3] q)), [.d (ringOf [4, 1, 2, 3]), .d (ringOf q)])) := by kernel_rfl
theorem t1_19 : perms4.map (fun q => call2 84 (ringOf [4, 1, 3, 2]) (ringOf q)) = perms4.map (fun q => some (.d (tp (rbL [4, 1, 3, 2] q)), [.d (ringOf [4, 1, 3, 2]), .d (ringOf q)])) := by kernel_rfl
theorem t1_20 : perms4.map (fun q => call2 84 (ringOf [4, 2, 1, 3]) (ringOf q)) = perms4.map (fun q => some (.d (tp (rbL [4, 2, 1, 3] q)), [.d (ringOf [4, 2, 1, 3]), .d (ringOf q)])) := by kernel_rfl
theorem t1_21 : perms4.map (fun q => call2 84 (ringOf [4, 2, 3, 1]) (ringOf q)) = perms4.map (fun q => some (.d (tp (rbL [4, 2, 3, 1] q)), [.d (ringOf [4, 2, 3, 1]), .d (ringOf q)])) := by kernel_rfl
theorem t1_22 : perms4.map (fun q => call2 84 (ringOf [4, 3, 1, 2]) (ringOf q)) = perms4.map (fun q => some (.d (tp (rbL [4, 3, 1, 2] q)), [.d (ringOf [4, 3, 1, 2]), .d (ringOf q)])) := by kernel_rfl
theorem t1_23 : perms4.map (fun q => call2 84 (ringOf [4, 3, 2, 1]) (ringOf q)) = perms4.map (fun q => some (.d (tp (rbL [4, 3, 2, 1] q)), [.d (ringOf [4, 3, 2, 1]), .d (ringOf q)])) := by kernel_rfl
theorem t1 {p q : List Int} (hp : p ∈ perms4) (hq : q ∈ perms4) : call2 84 (ringOf p) (ringOf q) = some (.d (tp (rbL p q)), [.d (ringOf p), .d (ringOf q)]) := by
  simp only [perms4, List.mem_cons, List.not_mem_nil, or_false] at hp
  rcases hp with rfl | rfl | rfl | rfl | rfl | rfl | rfl | rfl | rfl | rfl | rfl | rfl | rfl | rfl | rfl | rfl | rfl | rfl | rfl | rfl | rfl | rfl | rfl | rfl
  · exact tab t1_0 hq
  · exact tab t1_1 hq
  · exact tab t1_2 hq
  · exact tab t1_3 hq
  · exact tab t1_4 hq
  · exact tab t1_5 hq
  · exact tab t1_6 hq
  · exact tab t1_7 hq
  · exact tab t1_8 hq
  · exact tab t1_9 hq
  · exact tab t1_10 hq
  · exact tab t1_11 hq
  · exact tab t1_12 hq
  · exact tab t1_13 hq
  · exact tab t1_14 hq
  · exact tab t1_15 hq
  · exact tab t1_16 hq
  · exact tab t1_17 hq
  · exact tab t1_18 hq
  · exact tab t1_19 hq
  · exact tab t1_20 hq
  · exact tab t1_21 hq
  · exact tab t1_22 hq
  · exact tab t1_23 hq
theorem t2_0 : perms4.map (fun q => call1 117 (tp (rbL [1, 2, 3, 4] q))) = perms4.map (fun q => some (.d (.bool true), [.d (tp (rbL [1, 2, 3, 4] q))])) := by kernel_rfl
theorem t2_1 : perms4.map (fun q => call1 117 (tp (rbL [1, 2, 4, 3] q))) = perms4.map (fun q => some (.d (.bool true), [.d (tp (rbL [1, 2, 4, 3] q))])) := by kernel_rfl
theorem t2_2 : perms4.map (fun q => call1 117 (tp (rbL [1, 3, 2, 4] q))) = perms4.map (fun q => some (.d (.bool true), [.d (tp (rbL [1, 3, 2, 4] q))])) := by kernel_rfl
theorem t2_3 : perms4.map (fun q => call1 117 (tp (rbL [1, 3, 4, 2] q))) = perms4.map (fun q => some (.d (.bool true), [.d (tp (rbL [1, 3, 4, 2] q))])) := by kernel_rfl
theorem t2_4 : perms4.map (fun q => call1 117 (tp (rbL [1, 4, 2, 3] q))) = perms4.map (fun q => some (.d (.bool true), [.d (tp (rbL [1, 4, 2, 3] q))])) := by kernel_rfl
theorem t2_5 : perms4.map (fun q => call1 117 (tp (rbL [1, 4, 3, 2] q))) = perms4.map (fun q => some (.d (.bool true), [.d (tp (rbL [1, 4, 3, 2] q))])) := by kernel_rfl
theorem t2_6 : perms4.map (fun q => call1 117 (tp (rbL [2, 1, 3, 4] q))) = perms4.map (fun q => some (.d (.bool true), [.d (tp (rbL [2, 1, 3, 4] q))])) := by kernel_rfl
theorem t2_7 : perms4.map (fun q => call1 117 (tp (rbL [2, 1, 4, 3] q))) = perms4.map (fun q => some (.d (.bool true), [.d (tp (rbL [2, 1, 4, 3] q))])) := by kernel_rfl
theorem t2_8 : perms4.map (fun q => call1 117 (tp (rbL [2, 3, 1, 4] q))) = perms4.map (fun q => some (.d (.bool true), [.d (tp (rbL [2, 3, 1, 4] q))])) := by kernel_rfl
theorem t2_9 : perms4.map (fun q => call1 117 (tp (rbL [2, 3, 4, 1] q))) = perms4.map (fun q => some (.d (.bool true), [.d (tp (rbL [2, 3, 4, 1] q))])) := by kernel_rfl
theorem t2_10 : perms4.map (fun q => call1 117 (tp (rbL [2, 4, 1, 3] q))) = perms4.map (fun q => some (.d (.bool true), [.d (tp (rbL [2, 4, 1, 3] q))])) := by kernel_rfl
theorem t2_11 : perms4.map (fun q => call1 117 (tp (rbL [2, 4, 3, 1] q))) = perms4.map (fun q => some (.d (.bool true), [.d (tp (rbL [2, 4, 3, 1] q))])) := by kernel_rfl
theorem t2_12 : perms4.map (fun q => call1 117 (tp (rbL [3, 1, 2, 4] q))) = perms4.map (fun q => some (.d (.bool true), [.d (tp (rbL [3, 1, 2, 4] q))])) := by kernel_rfl
theorem t2_13 : perms4.map (fun q => call1 117 (tp (rbL [3, 1, 4, 2] q))) = perms4.map (fun q => some (.d (.bool true), [.d (tp (rbL [3, 1, 4, 2] q))])) := by kernel_rfl
theorem t2_14 : perms4.map (fun q => call1 117 (tp (rbL [3, 2, 1, 4] q))) = perms4.map (fun q => some (.d (.bool true), [.d (tp (rbL [3, 2, 1, 4] q))])) := by kernel_rfl
theorem t2_15 : perms4.map (fun q => call1 117 (tp (rbL [3, 2, 4, 1] q))) = perms4.map (fun q => some (.d (.bool true), [.d (tp (rbL [3, 2, 4, 1] q))])) := by kernel_rfl
theorem t2_16 : perms4.map (fun q => call1 117 (tp (rbL [3, 4, 1, 2] q))) = perms4.map (fun q => some (.d (.bool true), [.d (tp (rbL [3, 4, 1, 2] q))])) := by kernel_rfl
theorem t2_17 : perms4.map (fun q => call1 117 (tp (rbL [3, 4, 2, 1] q))) = perms4.map (fun q => some (.d (.bool true), [.d (tp (rbL [3, 4, 2, 1] q))])) := by kernel_rfl
theorem t2_18 : perms4.map (fun q => call1 117 (tp (rbL [4, 1, 2, 3] q))) = perms4.map (fun q => some (.d (.bool true), [.d (tp (rbL [4, 1, 2, 3] q))])) := by kernel_rfl
theorem t2_19 : perms4.map (fun q => call1 117 (tp (rbL [4, 1, 3, 2] q))) = perms4.map (fun q => some (.d (.bool true), [.d (tp (rbL [4, 1, 3, 2] q))])) := by kernel_rfl
theorem t2_20 : perms4.map (fun q => call1 117 (tp (rbL [4, 2, 1, 3] q))) = perms4.map (fun q => some (.d (.bool true), [.d (tp (rbL [4, 2, 1, 3] q))])) := by kernel_rfl
theorem t2_21 : perms4.map (fun q => call1 117 (tp (rbL [4, 2, 3, 1] q))) = perms4.map (fun q => some (.d (.bool true), [.d (tp (rbL [4, 2, 3, 1] q))])) := by kernel_rfl
theorem t2_22 : perms4.map (fun q => call1 117 (tp (rbL [4, 3, 1, 2] q))) = perms4.map (fun q => some (.d (.bool true), [.d (tp (rbL [4, 3, 1, 2] q))])) := by kernel_rfl
theorem t2_23 : perms4.map (fun q => call1 117 (tp (rbL [4, 3, 2, 1] q))) = perms4.map (fun q => some (.d (.bool true), [.d (tp (rbL [4, 3, 2, 1] q))])) := by kernel_rfl
theorem t2 {p q : List Int} (hp : p ∈ perms4) (hq : q ∈ perms4) : call1 117 (tp (rbL p q)) = some (.d (.bool true), [.d (tp (rbL p q))]) := by
  simp only [perms4, List.mem_cons, List.not_mem_nil, or_false] at hp
  rcases hp with rfl | rfl | rfl | rfl | rfl | rfl | rfl | rfl | rfl | rfl | rfl | rfl | rfl | rfl | rfl | rfl | rfl | rfl | rfl | rfl | rfl | rfl | rfl | rfl
  · exact tab t2_0 hq
  · exact tab t2_1 hq
  · exact tab t2_2 hq
  · exact tab t2_3 hq
  · exact tab t2_4 hq
  · exact tab t2_5 hq
  · exact tab t2_6 hq
  · exact tab t2_7 hq
  · exact tab t2_8 hq
  · exact tab t2_9 hq
  · exact tab t2_10 hq
  · exact tab t2_11 hq
  · exact tab t2_12 hq
  · exact tab t2_13 hq
  · exact tab t2_14 hq
  · exact tab t2_15 hq
  · exact tab t2_16 hq
  · exact tab t2_17 hq
  · exact tab t2_18 hq
  · exact tab t2_19 hq
  · exact tab t2_20 hq
  · exact tab t2_21 hq
  · exact tab t2_22 hq
  · exact tab t2_23 hq
theorem t3_0 : perms4.map (fun q => call1 116 (tp (rbL [1, 2, 3, 4] q))) = perms4.map (fun q => some (.d (tp (bkL (rbL [1, 2, 3, 4] q))), [.d (tp (rbL [1, 2, 3, 4] q))])) := by kernel_rfl
theorem t3_1 : perms4.map (fun q => call1 116 (tp (rbL [1, 2, 4, 3] q))) = perms4.map (fun q => some (.d (tp (bkL (rbL [1, 2, 4, 3] q))), [.d (tp (rbL [1, 2, 4, 3] q))])) := by kernel_rfl
theorem t3_2 : perms4.map (fun q => call1 116 (tp (rbL [1, 3, 2, 4] q))) = perms4.map (fun q => some (.d (tp (bkL (rbL [1, 3, 2, 4] q))), [.d (tp (rbL [1, 3, 2, 4] q))])) := by kernel_rfl
theorem t3_3 : perms4.map (fun q => call1 116 (tp (rbL [1, 3, 4, 2] q))) = perms4.map (fun q => some (.d (tp (bkL (rbL [1, 3, 4, 2] q))), [.d (tp (rbL [1, 3, 4, 2] q))])) := by kernel_rfl
theorem t3_4 : perms4.map (fun q => call1 116 (tp (rbL [1, 4, 2, 3] q))) = perms4.map (fun q => some (.d (tp (bkL (rbL [1, 4, 2, 3] q))), [.d (tp (rbL [1, 4, 2, 3] q))])) := by kernel_rfl
theorem t3_5 : perms4.map (fun q => call1 116 (tp (rbL [1, 4, 3, 2] q))) = perms4.map (fun q => some (.d (tp (bkL (rbL [1, 4, 3, 2] q))), [.d (tp (rbL [1, 4, 3, 2] q))])) := by kernel_rfl
theorem t3_6 : perms4.map (fun q => call1 116 (tp (rbL [2, 1, 3, 4] q))) = perms4.map (fun q => some (.d (tp (bkL (rbL [2, 1, 3, 4] q))), [.d (tp (rbL [2, 1, 3, 4] q))])) := by kernel_rfl
theorem t3_7 : perms4.map (fun q => call1 116 (tp (rbL [2, 1, 4, 3] q))) = perms4.map (fun q => some (.d (tp (bkL (rbL [2, 1, 4, 3] q))), [.d (tp (rbL [2, 1, 4, 3] q))])) := by kernel_rfl
theorem t3_8 : perms4.map (fun q => call1 116 (tp (rbL [2, 3, 1, 4] q))) = perms4.map (fun q => some (.d (tp (bkL (rbL [2, 3, 1, 4] q))), [.d (tp (rbL [2, 3, 1, 4] q))])) := by kernel_rfl
theorem t3_9 : perms4.map (fun q => call1 116 (tp (rbL [2, 3, 4, 1] q))) = perms4.map (fun q => some (.d (tp (bkL (rbL [2, 3, 4, 1] q))), [.d (tp (rbL [2, 3, 4, 1] q))])) := by kernel_rfl
theorem t3_10 : perms4.map (fun q => call1 116 (tp (rbL [2, 4, 1, 3] q))) = perms4.map (fun q => some (.d (tp (bkL (rbL [2, 4, 1, 3] q))), [.d (tp (rbL [2, 4, 1, 3] q))])) := by kernel_rfl
theorem t3_11 : perms4.map (fun q => call1 116 (tp (rbL [2, 4, 3, 1] q))) = perms4.map (fun q => some (.d (tp (bkL (rbL [2, 4, 3, 1] q))), [.d (tp (rbL [2, 4, 3, 1] q))])) := by kernel_rfl
theorem t3_12 : perms4.map (fun q => call1 116 (tp (rbL [3, 1, 2, 4] q))) = perms4.map (fun q => some (.d (tp (bkL (rbL [3, 1, 2, 4] q))), [.d (tp (rbL [3, 1, 2, 4] q))])) := by kernel_rfl
theorem t3_13 : perms4.map (fun q => call1 116 (tp (rbL [3, 1, 4, 2] q))) = perms4.map (fun q => some (.d (tp (bkL (rbL [3, 1, 4, 2] q))), [.d (tp (rbL [3, 1, 4, 2] q))])) := by kernel_rfl
theorem t3_14 : perms4.map (fun q => call1 116 (tp (rbL [3, 2, 1, 4] q))) = perms4.map (fun q => some (.d (tp (bkL (rbL [3, 2, 1, 4] q))), [.d (tp (rbL [3, 2, 1, 4] q))])) := by kernel_rfl
theorem t3_15 : perms4.map (fun q => call1 116 (tp (rbL [3, 2, 4, 1] q))) = perms4.map (fun q => some (.d (tp (bkL (rbL [3, 2, 4, 1] q))), [.d (tp (rbL [3, 2, 4, 1] q))])) := by kernel_rfl
theorem t3_16 : perms4.map (fun q => call1 116 (tp (rbL [3, 4, 1, 2] q))) = perms4.map (fun q => some (.d (tp (bkL (rbL [3, 4, 1, 2] q))), [.d (tp (rbL [3, 4, 1, 2] q))])) := by kernel_rfl
theorem t3_17 : perms4.map (fun q => call1 116 (tp (rbL [3, 4, 2, 1] q))) = perms4.map (fun q => some (.d (tp (bkL (rbL [3, 4, 2, 1] q))), [.d (tp (rbL [3, 4, 2, 1] q))])) := by kernel_rfl
theorem t3_18 : perms4.map (fun q => call1 116 (tp (rbL [4, 1, 2, 3] q))) = perms4.map (fun q => some (.d (tp (bkL (rbL [4, 1, 2, 3] q))), [.d (tp (rbL [4, 1, 2, 3] q))])) := by kernel_rfl
theorem t3_19 : perms4.map (fun q => call1 116 (tp (rbL [4, 1, 3, 2] q))) = perms4.map (fun q => some (.d (tp (bkL (rbL [4, 1, 3, 2] q))), [.d (tp (rbL [4, 1, 3, 2] q))])) := by kernel_rfl
theorem t3_20 : perms4.map (fun q => call1 116 (tp (rbL [4, 2, 1, 3] q))) = perms4.map (fun q => some (.d (tp (bkL (rbL [4, 2, 1, 3] q))), [.d (tp (rbL [4, 2, 1, 3] q))])) := by kernel_rfl
theorem t3_21 : perms4.map (fun q => call1 116 (tp (rbL [4, 2, 3, 1] q))) = perms4.map (fun q => some (.d (tp (bkL (rbL [4, 2, 3, 1] q))), [.d (tp (rbL [4, 2, 3, 1] q))])) := by kernel_rfl
theorem t3_22 : perms4.map (fun q => call1 116 (tp (rbL [4, 3, 1, 2] q))) = perms4.map (fun q => some (.d (tp (bkL (rbL [4, 3, 1, 2] q))), [.d (tp (rbL [4, 3, 1, 2] q))])) := by kernel_rfl
theorem t3_23 : perms4.map (fun q => call1 116 (tp (rbL [4, 3, 2, 1] q))) = perms4.map (fun q => some (.d (tp (bkL (rbL [4, 3, 2, 1] q))), [.d (tp (rbL [4, 3, 2, 1] q))])) := by kernel_rfl
theorem t3 {p q : List Int} (hp : p ∈ perms4) (hq : q ∈ perms4) : call1 116 (tp (rbL p q)) = some (.d (tp (bkL (rbL p q))), [.d (tp (rbL p q))]) := by
  simp only [perms4, List.mem_cons, List.not_mem_nil, or_false] at hp
  rcases hp with rfl | rfl | rfl | rfl | rfl | rfl | rfl | rfl | rfl | rfl | rfl | rfl | rfl | rfl | rfl | rfl | rfl | rfl | rfl | rfl | rfl | rfl | rfl | rfl
  · exact tab t3_0 hq
  · exact tab t3_1 hq
  · exact tab t3_2 hq
  · exact tab t3_3 hq
  · exact tab t3_4 hq
  · exact tab t3_5 hq
  · exact tab t3_6 hq
  · exact tab t3_7 hq
  · exact tab t3_8 hq
  · exact tab t3_9 hq
  · exact tab t3_10 hq
  · exact tab t3_11 hq
  · exact tab t3_12 hq
  · exact tab t3_13 hq
  · exact tab t3_14 hq
  · exact tab t3_15 hq
  · exact tab t3_16 hq
  · exact tab t3_17 hq
  · exact tab t3_18 hq
  · exact tab t3_19 hq
  · exact tab t3_20 hq
  · exact tab t3_21 hq
  · exact tab t3_22 hq
  · exact tab t3_23 hq
theorem t4_0 : perms4.map (fun q => call1 71 (.list [tp (rbL [1, 2, 3, 4] q), ringOf [1, 2, 3, 4], tp (bkL (rbL [1, 2, 3, 4] q))])) = perms4.map (fun q => some (.d (ringOf q), [.d (.list [tp (rbL [1, 2, 3, 4] q), ringOf [1, 2, 3, 4], tp (bkL (rbL [1, 2, 3, 4] q))])])) := by kernel_rfl
theorem t4_1 : perms4.map (fun q => call1 71 (.list [tp (rbL [1, 2, 4, 3] q), ringOf [1, 2, 4, 3], tp (bkL (rbL [1, 2, 4, 3] q))])) = perms4.map (fun q => some (.d (ringOf q), [.d (.list [tp (rbL [1, 2, 4, 3] q), ringOf [1, 2, 4, 3], tp (bkL (rbL [1, 2, 4, 3] q))])])) := by kernel_rfl
theorem t4_2 : perms4.map (fun q => call1 71 (.list [tp (rbL [1, 3, 2, 4] q), ringOf [1, 3, 2, 4], tp (bkL (rbL [1, 3, 2, 4] q))])) = perms4.map (fun q => some (.d (ringOf q), [.d (.list [tp (rbL [1, 3, 2, 4] q), ringOf [1, 3, 2, 4], tp (bkL (rbL [1, 3, 2, 4] q))])])) := by kernel_rfl
theorem t4_3 : perms4.map (fun q => call1 71 (.list [tp (rbL [1, 3, 4, 2] q), ringOf [1, 3, 4, 2], tp (bkL (rbL [1, 3, 4, 2] q))])) = perms4.map (fun q => some (.d (ringOf q), [.d (.list [tp (rbL [1, 3, 4, 2] q), ringOf [1, 3, 4, 2], tp (bkL (rbL [1, 3, 4, 2] q))])])) := by kernel_rfl
theorem t4_4 : perms4.map (fun q => call1 71 (.list [tp (rbL [1, 4, 2, 3] q), ringOf [1, 4, 2, 3], tp (bkL (rbL [1, 4, 2, 3] q))])) = perms4.map (fun q => some (.d (ringOf q), [.d (.list [tp (rbL [1, 4, 2, 3] q), ringOf [1, 4, 2, 3], tp (bkL (rbL [1, 4, 2, 3] q))])])) := by kernel_rfl
theorem t4_5 : perms4.map (fun q => call1 71 (.list [tp (rbL [1, 4, 3, 2] q), ringOf [1, 4, 3, 2], tp (bkL (rbL [1, 4, 3, 2] q))])) = perms4.map (fun q => some (.d (ringOf q), [.d (.list [tp (rbL [1, 4, 3, 2] q), ringOf [1, 4, 3, 2], tp (bkL (rbL [1, 4, 3, 2] q))])])) := by kernel_rfl
theorem t4_6 : perms4.map (fun q => call1 71 (.list [tp (rbL [2, 1, 3, 4] q), ringOf [2, 1, 3, 4], tp (bkL (rbL [2, 1, 3, 4] q))])) = perms4.map (fun q => some (.d (ringOf q), [.d (.list [tp (rbL [2, 1, 3, 4] q), ringOf [2, 1, 3, 4], tp (bkL (rbL [2, 1, 3, 4] q))])])) := by kernel_rfl
theorem t4_7 : perms4.map (fun q => call1 71 (.list [tp (rbL [2, 1, 4, 3] q), ringOf [2, 1, 4, 3], tp (bkL (rbL [2, 1, 4, 3] q))])) = perms4.map (fun q => some (.d (ringOf q), [.d (.list [tp (rbL [2, 1, 4, 3] q), ringOf [2, 1, 4, 3], tp (bkL (rbL [2, 1, 4, 3] q))])])) := by kernel_rfl
theorem t4_8 : perms4.map (fun q => call1 71 (.list [tp (rbL [2, 3, 1, 4] q), ringOf [2, 3, 1, 4], tp (bkL (rbL [2, 3, 1, 4] q))])) = perms4.map (fun q => some (.d (ringOf q), [.d (.list [tp (rbL [2, 3, 1, 4] q), ringOf [2, 3, 1, 4], tp (bkL (rbL [2, 3, 1, 4] q))])])) := by kernel_rfl
theorem t4_9 : perms4.map (fun q => call1 71 (.list [tp (rbL [2, 3, 4, 1] q), ringOf [2, 3, 4, 1], tp (bkL (rbL [2, 3, 4, 1] q))])) = perms4.map (fun q => some (.d (ringOf q), [.d (.list [tp (rbL [2, 3, 4, 1] q), ringOf [2, 3, 4, 1], tp (bkL (rbL [2, 3, 4, 1] q))])])) := by kernel_rfl
theorem t4_10 : perms4.map (fun q => call1 71 (.list [tp (rbL [2, 4, 1, 3] q), ringOf [2, 4, 1, 3], tp (bkL (rbL [2, 4, 1, 3] q))])) = perms4.map (fun q => some (.d (ringOf q), [.d (.list [tp (rbL [2, 4, 1, 3] q), ringOf [2, 4, 1, 3], tp (bkL (rbL [2, 4, 1, 3] q))])])) := by kernel_rfl
theorem t4_11 : perms4.map (fun q => call1 71 (.list [tp (rbL [2, 4, 3, 1] q), ringOf [2, 4, 3, 1], tp (bkL (rbL [2, 4, 3, 1] q))])) = perms4.map (fun q => some (.d (ringOf q), [.d (.list [tp (rbL [2, 4, 3, 1] q), ringOf [2, 4, 3, 1], tp (bkL (rbL [2, 4, 3, 1] q))])])) := by kernel_rfl
theorem t4_12 : perms4.map (fun q => call1 71 (.list [tp (rbL [3, 1, 2, 4] q), ringOf [3, 1, 2, 4], tp (bkL (rbL [3, 1, 2, 4] q))])) = perms4.map (fun q => some (.d (ringOf q), [.d (.list [tp (rbL [3, 1, 2, 4] q), ringOf [3, 1, 2, 4], tp (bkL (rbL [3, 1, 2, 4] q))])])) := by kernel_rfl
theorem t4_13 : perms4.map (fun q => call1 71 (.list [tp (rbL [3, 1, 4, 2] q), ringOf [3, 1, 4, 2], tp (bkL (rbL [3, 1, 4, 2] q))])) = perms4.map (fun q => some (.d (ringOf q), [.d (.list [tp (rbL [3, 1, 4, 2] q), ringOf [3, 1, 4, 2], tp (bkL (rbL [3, 1, 4, 2] q))])])) := by kernel_rfl
theorem t4_14 : perms4.map (fun q => call1 71 (.list [tp (rbL [3, 2, 1, 4] q), ringOf [3, 2, 1, 4], tp (bkL (rbL [3, 2, 1, 4] q))])) = perms4.map (fun q => some (.d (ringOf q), [.d (.list [tp (rbL [3, 2, 1, 4] q), ringOf [3, 2, 1, 4], tp (bkL (rbL [3, 2, 1, 4] q))])])) := by kernel_rfl
theorem t4_15 : perms4.map (fun q => call1 71 (.list [tp (rbL [3, 2, 4, 1] q), ringOf [3, 2, 4, 1], tp (bkL (rbL [3, 2, 4, 1] q))])) = perms4.map (fun q => some (.d (ringOf q), [.d (.list [tp (rbL [3, 2, 4, 1] q), ringOf [3, 2, 4, 1], tp (bkL (rbL [3, 2, 4, 1] q))])])) := by kernel_rfl
theorem t4_16 : perms4.map (fun q => call1 71 (.list [tp (rbL [3, 4, 1, 2] q), ringOf [3, 4, 1, 2], tp (bkL (rbL [3, 4, 1, 2] q))])) = perms4.map (fun q => some (.d (ringOf q), [.d (.list [tp (rbL [3, 4, 1, 2] q), ringOf [3, 4, 1, 2], tp (bkL (rbL [3, 4, 1, 2] q))])])) := by kernel_rfl
theorem t4_17 : perms4.map (fun q => call1 71 (.list [tp (rbL [3, 4, 2, 1] q), ringOf [3, 4, 2, 1], tp (bkL (rbL [3, 4, 2, 1] q))])) = perms4.map (fun q => some (.d (ringOf q), [.d (.list [tp (rbL [3, 4, 2, 1] q), ringOf [3, 4, 2, 1], tp (bkL (rbL [3, 4, 2, 1] q))])])) := by kernel_rfl
theorem t4_18 : perms4.map (fun q => call1 71 (.list [tp (rbL [4, 1, 2, 3] q), ringOf [4, 1, 2, 3], tp (bkL (rbL [4, 1, 2, 3] q))])) = perms4.map (fun q => some (.d (ringOf q), [.d (.list [tp (rbL [4, 1, 2, 3] q), ringOf [4, 1, 2, 3], tp (bkL (rbL [4, 1, 2, 3] q))])])) := by kernel_rfl
theorem t4_19 : perms4.map (fun q => call1 71 (.list [tp (rbL [4, 1, 3, 2] q), ringOf [4, 1, 3, 2], tp (bkL (rbL [4, 1, 3, 2] q))])) = perms4.map (fun q => some (.d (ringOf q), [.d (.list [tp (rbL [4, 1, 3, 2] q), ringOf [4, 1, 3, 2], tp (bkL (rbL [4, 1, 3, 2] q))])])) := by kernel_rfl
theorem t4_20 : perms4.map (fun q => call1 71 (.list [tp (rbL [4, 2, 1, 3] q), ringOf [4, 2, 1, 3], tp (bkL (rbL [4, 2, 1, 3] q))])) = perms4.map (fun q => some (.d (ringOf q), [.d (.list [tp (rbL [4, 2, 1, 3] q), ringOf [4, 2, 1, 3], tp (bkL (rbL [4, 2, 1, 3] q))])])) := by kernel_rfl
theorem t4_21 : perms4.map (fun q => call1 71 (.list [tp (rbL [4, 2, 3, 1] q), ringOf [4, 2, 3, 1], tp (bkL (rbL [4, 2, 3, 1] q))])) = perms4.map (fun q => some (.d (ringOf q), [.d (.list [tp (rbL [4, 2, 3, 1] q), ringOf [4, 2, 3, 1], tp (bkL (rbL [4, 2, 3, 1] q))])])) := by kernel_rfl
theorem t4_22 : perms4.map (fun q => call1 71 (.list [tp (rbL [4, 3, 1, 2] q), ringOf [4, 3, 1, 2], tp (bkL (rbL [4, 3, 1, 2] q))])) = perms4.map (fun q => some (.d (ringOf q), [.d (.list [tp (rbL [4, 3, 1, 2] q), ringOf [4, 3, 1, 2], tp (bkL (rbL [4, 3, 1, 2] q))])])) := by kernel_rfl
theorem t4_23 : perms4.map (fun q => call1 71 (.list [tp (rbL [4, 3, 2, 1] q), ringOf [4, 3, 2, 1], tp (bkL (rbL [4, 3, 2, 1] q))])) = perms4.map (fun q => some (.d (ringOf q), [.d (.list [tp (rbL [4, 3, 2, 1] q), ringOf [4, 3, 2, 1], tp (bkL (rbL [4, 3, 2, 1] q))])])) := by kernel_rfl
theorem t4 {p q : List Int} (hp : p ∈ perms4) (hq : q ∈ perms4) : call1 71 (.list [tp (rbL p q), ringOf p, tp (bkL (rbL p q))]) = some (.d (ringOf q), [.d (.list [tp (rbL p q), ringOf p, tp (bkL (rbL p q))])]) := by
  simp only [perms4, List.mem_cons, List.not_mem_nil, or_false] at hp
  rcases hp with rfl | rfl | rfl | rfl | rfl | rfl | rfl | rfl | rfl | rfl | rfl | rfl | rfl | rfl | rfl | rfl | rfl | rfl | rfl | rfl | rfl | rfl | rfl | rfl
  · exact tab t4_0 hq
  · exact tab t4_1 hq
  · exact tab t4_2 hq
  · exact tab t4_3 hq
  · exact tab t4_4 hq
  · exact tab t4_5 hq
  · exact tab t4_6 hq
  · exact tab t4_7 hq
  · exact tab t4_8 hq
  · exact tab t4_9 hq
  · exact tab t4_10 hq
  · exact tab t4_11 hq
  · exact tab t4_12 hq
  · exact tab t4_13 hq
  · exact tab t4_14 hq
  · exact tab t4_15 hq
  · exact tab t4_16 hq
  · exact tab t4_17 hq
  · exact tab t4_18 hq
  · exact tab t4_19 hq
  · exact tab t4_20 hq
  · exact tab t4_21 hq
  · exact tab t4_22 hq
  · exact tab t4_23 hq
theorem u0 : perms4 = partsL.map (·.1) := by kernel_rfl
theorem u1_0 : ((partsL.drop 0).take 4).map (fun x => call1 88 (ringOf x.1)) = ((partsL.drop 0).take 4).map (fun x => some (.d (.tuple [tp x.2.1, tp x.2.2]), [.d (ringOf x.1)])) := by kernel_rfl
theorem u1_1 : ((partsL.drop 4).take 4).map (fun x => call1 88 (ringOf x.1)) = ((partsL.drop 4).take 4).map (fun x => some (.d (.tuple [tp x.2.1, tp x.2.2]), [.d (ringOf x.1)])) := by kernel_rfl
theorem u1_2 : ((partsL.drop 8).take 4).map (fun x => call1 88 (ringOf x.1)) = ((partsL.drop 8).take 4).map (fun x => some (.d (.tuple [tp x.2.1, tp x.2.2]), [.d (ringOf x.1)])) := by kernel_rfl
theorem u1_3 : ((partsL.drop 12).take 4).map (fun x => call1 88 (ringOf x.1)) = ((partsL.drop 12).take 4).map (fun x => some (.d (.tuple [tp x.2.1, tp x.2.2]), [.d (ringOf x.1)])) := by kernel_rfl
theorem u1_4 : ((partsL.drop 16).take 4).map (fun x => call1 88 (ringOf x.1)) = ((partsL.drop 16).take 4).map (fun x => some (.d (.tuple [tp x.2.1, tp x.2.2]), [.d (ringOf x.1)])) := by kernel_rfl
theorem u1_5 : ((partsL.drop 20).take 4).map (fun x => call1 88 (ringOf x.1)) = ((partsL.drop 20).take 4).map (fun x => some (.d (.tuple [tp x.2.1, tp x.2.2]), [.d (ringOf x.1)])) := by kernel_rfl
theorem parts_cut : partsL = (partsL.drop 0).take 4 ++ (partsL.drop 4).take 4 ++ (partsL.drop 8).take 4 ++ (partsL.drop 12).take 4 ++ (partsL.drop 16).take 4 ++ (partsL.drop 20).take 4 := rfl
theorem u1 : partsL.map (fun x => call1 88 (ringOf x.1)) = partsL.map (fun x => some (.d (.tuple [tp x.2.1, tp x.2.2]), [.d (ringOf x.1)])) := by
  rw [parts_cut]
  simp only [List.map_append, u1_0, u1_1, u1_2, u1_3, u1_4, u1_5]
theorem u2 : partsL.map (fun x => call1 118 (tp x.2.1)) = partsL.map (fun x => some (.d (.bool true), [.d (tp x.2.1)])) := by kernel_rfl
theorem u3 : partsL.map (fun x => call1 118 (tp x.2.2)) = partsL.map (fun x => some (.d (.bool true), [.d (tp x.2.2)])) := by kernel_rfl
theorem u4 : partsL.map (fun x => call1 116 (tp x.2.1)) = partsL.map (fun x => some (.d (tp (bkL x.2.1)), [.d (tp x.2.1)])) := by kernel_rfl
theorem u5 : partsL.map (fun x => call1 116 (tp x.2.2)) = partsL.map (fun x => some (.d (tp (bkL x.2.2)), [.d (tp x.2.2)])) := by kernel_rfl
theorem u6 : partsL.map (fun x => call1 71 (.list [tp x.2.1, tp x.2.2, tp (bkL x.2.1), tp (bkL x.2.2)])) = partsL.map (fun x => some (.d (ringOf x.1), [.d (.list [tp x.2.1, tp x.2.2, tp (bkL x.2.1), tp (bkL x.2.2)])])) := by kernel_rfl
theorem u7 : perms4.map (fun p => SeqAt.shaped (ringOf p)) = perms4.map fun _ => true := by kernel_rfl
end K36

/-! K36Q: the law. -/
namespace K36
open PySem DI DB DS
/-- the feed's four draws -/
theorem popL {Φ : Phi} (tk : TakeOk Φ) {x2 x4 x5 : Option R} : ∀ (xs : List PyData) (l : List Int) (a b : Int), xs.length ≤ l.length → l.length ≤ 1000 → ∃ (pl l' : List Int) (a' b' : Int), (pl ++ l').Perm l ∧ pl.length = xs.length ∧
    lcL (lcF Φ [3] (.mu .popAt 1 (.cons (.call 8 [true, false] (.cons (.var 0) (.cons (.bi .len (.cons (.var 1) .nil)) .nil))) .nil)) (.nm 3) .nil) xs [some (feedR a b), some (.l (l.map .int)), x2, none, x4, x5] = some (pl.map .int, [some (feedR a' b'), some (.l (l'.map .int)), x2, none, x4, x5])
  | [], l, a, b, _, _ => ⟨[], l, a, b, .refl _, rfl, rfl⟩
  | x :: xs, l, a, b, h1, h2 => by
    rw [List.length_cons] at h1
    obtain ⟨r, a1, b1, r0, r1, e⟩ := tk a b l.length (by omega) (by omega)
    have hj : r.toNat < l.length := by omega
    obtain ⟨pl, l', a2, b2, p, lp, e2⟩ := popL tk (x2 := x2) (x4 := x4) (x5 := x5) xs (l.eraseIdx r.toNat) a1 b1 (by rw [List.length_eraseIdx_of_lt hj]; omega) (by rw [List.length_eraseIdx_of_lt hj]; omega)
    refine ⟨l[r.toNat] :: pl, l', a2, b2, (p.cons _).trans (perm_erase hj), by simp [lp], lcL_yes (ρ1 := [some (feedR a1 b1), some (.l ((l.eraseIdx r.toNat).map .int)), x2, none, x4, x5]) ?_ e2⟩
    have mp := popAt_ints r0 r1 (by omega)
    simp [lcF, evTs, e, mp, runF, lentR, exs, ex, ev, evT, evs, evb, eva, evr, evTs, evI, evC, bw_var, bw_cst, bw_glob, bw_bin, bw_neg, bw_cmp, bw_chain, bw_and, bw_or, bw_not, bw_ite, bw_tup, bw_lst, bw_call, bw_callK, pick, bw_bi, bw_isi, bw_mu, bw_mt, bw_ix, bw_sl, bw_rev, bw_slen, bw_six, bw_lc, bw_lc2, bw_sset, bw_cp, bw_maxd, bw_dsp, bw_dget, bw_dix, bw_dzip, bw_gget, bw_gix, bw_ch3, bw_rpr, kOf, gt, rd, rds, ra, ras, toD_d, toD_l, toD_s, toD_k, frz_d, frz_l, frz_s, frz_k, tru_bool, tru_int, tru_none, tru_list, tru_tuple, bin_add_int, bin_add_list, bin_add_tuple, bin_add_str, bin_sub_int, bin_mul_int, bin_mul_list, bin_mul_tuple, bin_fdiv_int, bin_mod_int, bin_pow_int, cmp_eq_int, cmp_ne_int, cmp_lt, cmp_le, cmp_gt, cmp_ge, cmp_isin, cmp_notin, cmp_is, cmp_isnot, cmpLt_int, cmpLe_int, isD_none, isD_bool, isNone, bi_len_list, bi_len_tuple, bi_abs, bi_max2, bi_min2, bi_sum, bi_all, bi_any, bi_list_list, bi_list_tuple, bi_tuple_list, bi_tuple_tuple, bi_sorted_list, bi_sorted_tuple, bi_int_int, bi_int_bool, bi_maxL, bi_minL, items_list, items_tuple, intsD, isT, mu_append, mu_pop, mu_extend, DI.ix_list, DI.ix_tuple, DI.sl_list, DI.sl_tuple, partI, cutD, HT.sIx, atI_0, atI_1, atI_2, atI_3, L2.ixN, setS, bt_nm, bt_tp_tuple, bt_tp_list, bt_stp, bt_stp_list, bts_nil, bts_cons, CTs.len, lcL, lcC, forL, iter_list, iter_tuple, wipeR, restoreR, wb, outR, retR, setPar, Arg.slot?, notTS, limLen, kindOf, List.filterMap_cons, List.filterMap_nil]
def rest70 : CSs := (.cons (.set 4 (.lst (.cons (.cst (.int 0)) (.cons (.cst (.int 0)) (.cons (.cst (.int 0)) (.cons (.cst (.int 0)) (.cons (.cst (.int 0)) .nil)))))))
  (.cons l1_70
  (.cons (.ret (.bi .tuple (.cons (.var 4) .nil)))
  .nil)))
def its : PyData → List PyData
  | .tuple xs => xs
  | _ => []
theorem r70 (x0 x1 : Option R) : perms4.map (fun p => (exF (evF (RunF 60 T0 100 8) 60) 100 [0] 60).exs rest70 [x0, x1, some (.l ((0 :: p).map .int)), none, none, none]) = perms4.map (fun p => some (.rt (.d (ringOf p)), [x0, x1, some (.l ((0 :: p).map .int)), none, some (.l (its (ringOf p))), some (.d (.int 4))])) := by kernel_rfl
theorem exs_F {k j m : Nat} {io : List Nat} {c : CSs} {ρ : Rho} {x : Fl × Rho} {n : Nat} (h : (exF (evF (RunF k T0 100 n) m) 100 io j).exs c ρ = some x) : exs (DI.Run T0 100 n) 100 io c ρ = some x :=
  (exF_le (evF_le (RunF_le k T0 100 n) m) j).exs c ρ x h
theorem ringOk (a b : Int) : ∃ p ∈ perms4, ∃ a' b', DI.Run T0 100 9 70 [feedR a b] = some (.d (ringOf p), [feedR a' b']) := by
  have tk := takeOk (T := T0) (wf := 100) (n := 7) rfl
  obtain ⟨pl, l', a1, b1, pp, lp, e⟩ := popL tk (x2 := none) (x4 := none) (x5 := none) [.int 0, .int 1, .int 2, .int 3] [1, 2, 3, 4] a b (by simp) (by simp)
  have hl' : l' = [] := by
    have := pp.length_eq
    rw [List.length_append, lp] at this
    exact List.length_eq_zero_iff.mp (by simpa using this)
  subst hl'
  rw [List.append_nil] at pp
  have hp := perm_mem pp
  refine ⟨pl, hp, a1, b1, ?_⟩
  have e' : ev (DI.Run T0 100 8) c0_70 [some (feedR a b), some (.l ([1, 2, 3, 4].map PyData.int)), none, none, none, none] = some (.l (pl.map .int), [some (feedR a1 b1), some (.l []), none, none, none, none]) :=
    ev_lc (ρ1 := [some (feedR a b), some (.l ([1, 2, 3, 4].map PyData.int)), none, none, none, none]) (rng_ev (c := .cst (.int 4)) (k := 4) (by rw [ev]; rfl) (by omega)) e (by simp [lp]; decide)
  have tl := exs_F (tab (r70 (some (feedR a1 b1)) (some (.l []))) hp)
  rw [show (9 : Nat) = 8 + 1 from rfl, run_eq (show T0 70 = some F70 from rfl)]
  have fin : exs (DI.Run T0 100 8) 100 [0] b70 [some (feedR a b), none, none, none, none, none] = some (.rt (.d (ringOf pl)), [some (feedR a1 b1), some (.l []), some (.l ((0 :: pl).map .int)), none, some (.l (its (ringOf pl))), some (.d (.int 4))]) := by
    refine exs_nx (ρ1 := [some (feedR a b), some (.l ([1, 2, 3, 4].map PyData.int)), none, none, none, none]) (by simp [runF, lentR, exs, ex, ev, evT, evs, evb, eva, evr, evTs, evI, evC, bw_var, bw_cst, bw_glob, bw_bin, bw_neg, bw_cmp, bw_chain, bw_and, bw_or, bw_not, bw_ite, bw_tup, bw_lst, bw_call, bw_callK, pick, bw_bi, bw_isi, bw_mu, bw_mt, bw_ix, bw_sl, bw_rev, bw_slen, bw_six, bw_lc, bw_lc2, bw_sset, bw_cp, bw_maxd, bw_dsp, bw_dget, bw_dix, bw_dzip, bw_gget, bw_gix, bw_ch3, bw_rpr, kOf, gt, rd, rds, ra, ras, toD_d, toD_l, toD_s, toD_k, frz_d, frz_l, frz_s, frz_k, tru_bool, tru_int, tru_none, tru_list, tru_tuple, bin_add_int, bin_add_list, bin_add_tuple, bin_add_str, bin_sub_int, bin_mul_int, bin_mul_list, bin_mul_tuple, bin_fdiv_int, bin_mod_int, bin_pow_int, cmp_eq_int, cmp_ne_int, cmp_lt, cmp_le, cmp_gt, cmp_ge, cmp_isin, cmp_notin, cmp_is, cmp_isnot, cmpLt_int, cmpLe_int, isD_none, isD_bool, isNone, bi_len_list, bi_len_tuple, bi_abs, bi_max2, bi_min2, bi_sum, bi_all, bi_any, bi_list_list, bi_list_tuple, bi_tuple_list, bi_tuple_tuple, bi_sorted_list, bi_sorted_tuple, bi_int_int, bi_int_bool, bi_maxL, bi_minL, items_list, items_tuple, intsD, isT, mu_append, mu_pop, mu_extend, DI.ix_list, DI.ix_tuple, DI.sl_list, DI.sl_tuple, partI, cutD, HT.sIx, atI_0, atI_1, atI_2, atI_3, L2.ixN, setS, bt_nm, bt_tp_tuple, bt_tp_list, bt_stp, bt_stp_list, bts_nil, bts_cons, CTs.len, lcL, lcC, forL, iter_list, iter_tuple, wipeR, restoreR, wb, outR, retR, setPar, Arg.slot?, notTS, limLen, kindOf, List.filterMap_cons, List.filterMap_nil]) ?_
    refine exs_nx (ρ1 := [some (feedR a1 b1), some (.l []), some (.l ((0 :: pl).map .int)), none, none, none]) ?_ tl
    rw [List.map_cons]
    have hlen : 1 + pl.length ≤ 16000000 := by rw [lp]; decide
    simp only [List.map_cons, List.map_nil] at e'
    simp [wc0_70, e', hlen, runF, lentR, exs, ex, ev, evT, evs, evb, eva, evr, evTs, evI, evC, bw_var, bw_cst, bw_glob, bw_bin, bw_neg, bw_cmp, bw_chain, bw_and, bw_or, bw_not, bw_ite, bw_tup, bw_lst, bw_call, bw_callK, pick, bw_bi, bw_isi, bw_mu, bw_mt, bw_ix, bw_sl, bw_rev, bw_slen, bw_six, bw_lc, bw_lc2, bw_sset, bw_cp, bw_maxd, bw_dsp, bw_dget, bw_dix, bw_dzip, bw_gget, bw_gix, bw_ch3, bw_rpr, kOf, gt, rd, rds, ra, ras, toD_d, toD_l, toD_s, toD_k, frz_d, frz_l, frz_s, frz_k, tru_bool, tru_int, tru_none, tru_list, tru_tuple, bin_add_int, bin_add_list, bin_add_tuple, bin_add_str, bin_sub_int, bin_mul_int, bin_mul_list, bin_mul_tuple, bin_fdiv_int, bin_mod_int, bin_pow_int, cmp_eq_int, cmp_ne_int, cmp_lt, cmp_le, cmp_gt, cmp_ge, cmp_isin, cmp_notin, cmp_is, cmp_isnot, cmpLt_int, cmpLe_int, isD_none, isD_bool, isNone, bi_len_list, bi_len_tuple, bi_abs, bi_max2, bi_min2, bi_sum, bi_all, bi_any, bi_list_list, bi_list_tuple, bi_tuple_list, bi_tuple_tuple, bi_sorted_list, bi_sorted_tuple, bi_int_int, bi_int_bool, bi_maxL, bi_minL, items_list, items_tuple, intsD, isT, mu_append, mu_pop, mu_extend, DI.ix_list, DI.ix_tuple, DI.sl_list, DI.sl_tuple, partI, cutD, HT.sIx, atI_0, atI_1, atI_2, atI_3, L2.ixN, setS, bt_nm, bt_tp_tuple, bt_tp_list, bt_stp, bt_stp_list, bts_nil, bts_cons, CTs.len, lcL, lcC, forL, iter_list, iter_tuple, wipeR, restoreR, wb, outR, retR, setPar, Arg.slot?, notTS, limLen, kindOf, List.filterMap_cons, List.filterMap_nil]
  rw [F70, runF, if_pos ⟨rfl, by decide, rfl⟩]
  have fin' : exs (DI.Run T0 100 8) 100 [0] b70 ([feedR a b].map some ++ List.replicate (6 - 1) none) = _ := fin
  rw [fin']
  rfl
def body0 : CSs := (.cons (.set 7 (.call 88 [false] (.cons (.var 6) .nil)))
  (.cons (.ifS (.or (.not (.isi .tuple (.var 7))) (.cmp .ne (.bi .len (.cons (.var 7) .nil)) (.cst (.int 2)))) (.cons (.ret (.cst (.bool false)))
  .nil) .nil)
  (.cons (.asg (.tp (.cons (.nm 8) (.cons (.nm 9) .nil))) (.var 7))
  (.cons (.ifS (.or (.not (.call 118 [false] (.cons (.var 8) .nil))) (.not (.call 118 [false] (.cons (.var 9) .nil)))) (.cons (.ret (.cst (.bool false)))
  .nil) .nil)
  (.cons (.ifS (.cmp .ne (.call 71 [false] (.cons (.lst (.cons (.var 8) (.cons (.var 9) (.cons (.call 116 [false] (.cons (.var 8) .nil)) (.cons (.call 116 [false] (.cons (.var 9) .nil)) .nil))))) .nil)) (.var 6)) (.cons (.ret (.cst (.bool false)))
  .nil) .nil)
  .nil)))))
theorem cmp_same {x : PyData} (h : SeqAt.shaped x = true) (l : x.canLay0 = true) : cmp .ne x x = some false := by
  show (cmpEq x x).map (!·) = _
  rw [cmpEq_of h h (eqv_same x l)]
  rfl
theorem u8 : perms4.map (fun p => (ringOf p).canLay0) = perms4.map fun _ => true := by kernel_rfl
theorem turn0 {p : List Int} (hp : p ∈ perms4) {x0 x1 x2 x3 x4 x5 x6 x7 x8 x9 : Option R} : ∃ x7' x8' x9', forF (DI.Run T0 100 9) 100 [] (.nm 6) body0 (ringOf p) [x0, x1, x2, x3, x4, x5, x6, x7, x8, x9] = some (.nx, [x0, x1, x2, x3, x4, x5, some (.d (ringOf p)), x7', x8', x9']) := by
  have hp' := hp
  rw [u0] at hp'
  obtain ⟨y, hy, rfl⟩ := List.mem_map.mp hp'
  have c1 := of_F (tab u1 hy)
  have c2 := of_F (tab u2 hy)
  have c3 := of_F (tab u3 hy)
  have c4 := of_F (tab u4 hy)
  have c5 := of_F (tab u5 hy)
  have c6 := of_F (tab u6 hy)
  have c7 := cmp_same (tab u7 hp) (tab u8 hp)
  refine ⟨some (.d (.tuple [tp y.2.1, tp y.2.2])), some (.d (tp y.2.1)), some (.d (tp y.2.2)), ?_⟩
  generalize hA : ringOf y.1 = A at *
  generalize hB : tp y.2.1 = B at *
  generalize hC : tp y.2.2 = C at *
  generalize tp (bkL y.2.1) = D at *
  generalize tp (bkL y.2.2) = E at *
  have nA : ∀ xs, A ≠ .list xs := fun xs e => by
    rw [← hA] at e
    clear c1 c2 c3 c4 c5 c6 c7
    simp only [perms4, List.mem_cons, List.not_mem_nil, or_false] at hp
    rcases hp with h | h | h | h | h | h | h | h | h | h | h | h | h | h | h | h | h | h | h | h | h | h | h | h <;> (rw [h] at e; cases e)
  simp [forF, body0, evT, c1, c2, c3, c4, c5, c6, c7, runF, lentR, exs, ex, ev, evT, evs, evb, eva, evr, evTs, evI, evC, bw_var, bw_cst, bw_glob, bw_bin, bw_neg, bw_cmp, bw_chain, bw_and, bw_or, bw_not, bw_ite, bw_tup, bw_lst, bw_call, bw_callK, pick, bw_bi, bw_isi, bw_mu, bw_mt, bw_ix, bw_sl, bw_rev, bw_slen, bw_six, bw_lc, bw_lc2, bw_sset, bw_cp, bw_maxd, bw_dsp, bw_dget, bw_dix, bw_dzip, bw_gget, bw_gix, bw_ch3, bw_rpr, kOf, gt, rd, rds, ra, ras, toD_d, toD_l, toD_s, toD_k, frz_d, frz_l, frz_s, frz_k, tru_bool, tru_int, tru_none, tru_list, tru_tuple, bin_add_int, bin_add_list, bin_add_tuple, bin_add_str, bin_sub_int, bin_mul_int, bin_mul_list, bin_mul_tuple, bin_fdiv_int, bin_mod_int, bin_pow_int, cmp_eq_int, cmp_ne_int, cmp_lt, cmp_le, cmp_gt, cmp_ge, cmp_isin, cmp_notin, cmp_is, cmp_isnot, cmpLt_int, cmpLe_int, isD_none, isD_bool, isNone, bi_len_list, bi_len_tuple, bi_abs, bi_max2, bi_min2, bi_sum, bi_all, bi_any, bi_list_list, bi_list_tuple, bi_tuple_list, bi_tuple_tuple, bi_sorted_list, bi_sorted_tuple, bi_int_int, bi_int_bool, bi_maxL, bi_minL, items_list, items_tuple, intsD, isT, mu_append, mu_pop, mu_extend, DI.ix_list, DI.ix_tuple, DI.sl_list, DI.sl_tuple, partI, cutD, HT.sIx, atI_0, atI_1, atI_2, atI_3, L2.ixN, setS, bt_nm, bt_tp_tuple, bt_tp_list, bt_stp, bt_stp_list, bts_nil, bts_cons, CTs.len, lcL, lcC, forL, iter_list, iter_tuple, wipeR, restoreR, wb, outR, retR, setPar, Arg.slot?, notTS, limLen, kindOf, List.filterMap_cons, List.filterMap_nil]
def bodyL : CSs := (.cons (.set 2 (.call 7 [false, false] (.cons (.var 0) (.cons (.var 1) .nil))))
  (.cons (.par [3, 4] (.cons (.call 70 [true] (.cons (.var 2) .nil)) (.cons (.call 70 [true] (.cons (.var 2) .nil)) .nil)))
  (.cons (.set 5 (.call 84 [false, false] (.cons (.var 3) (.cons (.var 4) .nil))))
  (.cons (.ifS (.or (.not (.call 117 [false] (.cons (.var 5) .nil))) (.cmp .ne (.call 71 [false] (.cons (.lst (.cons (.var 5) (.cons (.var 3) (.cons (.call 116 [false] (.cons (.var 5) .nil)) .nil)))) .nil)) (.var 4))) (.cons (.ret (.cst (.bool false)))
  .nil) .nil)
  (.cons l0_119
  .nil)))))
theorem turnL (ns : List Int) (k : Nat) (hk : k < 1000) (x1 x2 x3 x4 x5 x6 x7 x8 x9 : Option R) : ∃ x1' x2' x3' x4' x5' x6' x7' x8' x9', forF (DI.Run T0 100 9) 100 [] (.nm 1) bodyL (.int (k : Nat)) [some (scr ns), x1, x2, x3, x4, x5, x6, x7, x8, x9] =
    some (.nx, [some (scr ns), x1', x2', x3', x4', x5', x6', x7', x8', x9']) := by
  obtain ⟨a, b, e7⟩ := feedOk (T := T0) (wf := 100) (n := 8) rfl ns k hk
  obtain ⟨p, hp, a1, b1, e70⟩ := ringOk a b
  obtain ⟨q, hq, a2, b2, e70'⟩ := ringOk a1 b1
  have c1 := of_F (t1 hp hq)
  have c2 := of_F (t2 hp hq)
  have c3 := of_F (t3 hp hq)
  have c4 := of_F (t4 hp hq)
  have c7 := cmp_same (tab u7 hq) (tab u8 hq)
  obtain ⟨y7, y8, y9, l1⟩ := turn0 hp (x0 := some (scr ns)) (x1 := some (.d (.int (k : Nat)))) (x2 := some (feedR a2 b2)) (x3 := some (.d (ringOf p))) (x4 := some (.d (ringOf q))) (x5 := some (.d (tp (rbL p q)))) (x6 := x6) (x7 := x7) (x8 := x8) (x9 := x9)
  obtain ⟨z7, z8, z9, l2⟩ := turn0 hq (x0 := some (scr ns)) (x1 := some (.d (.int (k : Nat)))) (x2 := some (feedR a2 b2)) (x3 := some (.d (ringOf p))) (x4 := some (.d (ringOf q))) (x5 := some (.d (tp (rbL p q)))) (x6 := some (.d (ringOf p))) (x7 := y7) (x8 := y8) (x9 := y9)
  refine ⟨some (.d (.int (k : Nat))), some (feedR a2 b2), some (.d (ringOf p)), some (.d (ringOf q)), some (.d (tp (rbL p q))), some (.d (ringOf q)), z7, z8, z9, forF_of (ρ1 := [some (scr ns), some (.d (.int (k : Nat))), x2, x3, x4, x5, x6, x7, x8, x9]) (by simp [runF, lentR, exs, ex, ev, evT, evs, evb, eva, evr, evTs, evI, evC, bw_var, bw_cst, bw_glob, bw_bin, bw_neg, bw_cmp, bw_chain, bw_and, bw_or, bw_not, bw_ite, bw_tup, bw_lst, bw_call, bw_callK, pick, bw_bi, bw_isi, bw_mu, bw_mt, bw_ix, bw_sl, bw_rev, bw_slen, bw_six, bw_lc, bw_lc2, bw_sset, bw_cp, bw_maxd, bw_dsp, bw_dget, bw_dix, bw_dzip, bw_gget, bw_gix, bw_ch3, bw_rpr, kOf, gt, rd, rds, ra, ras, toD_d, toD_l, toD_s, toD_k, frz_d, frz_l, frz_s, frz_k, tru_bool, tru_int, tru_none, tru_list, tru_tuple, bin_add_int, bin_add_list, bin_add_tuple, bin_add_str, bin_sub_int, bin_mul_int, bin_mul_list, bin_mul_tuple, bin_fdiv_int, bin_mod_int, bin_pow_int, cmp_eq_int, cmp_ne_int, cmp_lt, cmp_le, cmp_gt, cmp_ge, cmp_isin, cmp_notin, cmp_is, cmp_isnot, cmpLt_int, cmpLe_int, isD_none, isD_bool, isNone, bi_len_list, bi_len_tuple, bi_abs, bi_max2, bi_min2, bi_sum, bi_all, bi_any, bi_list_list, bi_list_tuple, bi_tuple_list, bi_tuple_tuple, bi_sorted_list, bi_sorted_tuple, bi_int_int, bi_int_bool, bi_maxL, bi_minL, items_list, items_tuple, intsD, isT, mu_append, mu_pop, mu_extend, DI.ix_list, DI.ix_tuple, DI.sl_list, DI.sl_tuple, partI, cutD, HT.sIx, atI_0, atI_1, atI_2, atI_3, L2.ixN, setS, bt_nm, bt_tp_tuple, bt_tp_list, bt_stp, bt_stp_list, bts_nil, bts_cons, CTs.len, lcL, lcC, forL, iter_list, iter_tuple, wipeR, restoreR, wb, outR, retR, setPar, Arg.slot?, notTS, limLen, kindOf, List.filterMap_cons, List.filterMap_nil]) ?_⟩
  simp only [scr] at *
  generalize ringOf p = A at *
  generalize ringOf q = B at *
  generalize tp (rbL p q) = C at *
  generalize tp (bkL (rbL p q)) = D at *
  refine exs_nx (ρ1 := [some (.s (ns.map .int)), some (.d (.int (k : Nat))), some (feedR a b), x3, x4, x5, x6, x7, x8, x9]) (by simp [e7, runF, lentR, exs, ex, ev, evT, evs, evb, eva, evr, evTs, evI, evC, bw_var, bw_cst, bw_glob, bw_bin, bw_neg, bw_cmp, bw_chain, bw_and, bw_or, bw_not, bw_ite, bw_tup, bw_lst, bw_call, bw_callK, pick, bw_bi, bw_isi, bw_mu, bw_mt, bw_ix, bw_sl, bw_rev, bw_slen, bw_six, bw_lc, bw_lc2, bw_sset, bw_cp, bw_maxd, bw_dsp, bw_dget, bw_dix, bw_dzip, bw_gget, bw_gix, bw_ch3, bw_rpr, kOf, gt, rd, rds, ra, ras, toD_d, toD_l, toD_s, toD_k, frz_d, frz_l, frz_s, frz_k, tru_bool, tru_int, tru_none, tru_list, tru_tuple, bin_add_int, bin_add_list, bin_add_tuple, bin_add_str, bin_sub_int, bin_mul_int, bin_mul_list, bin_mul_tuple, bin_fdiv_int, bin_mod_int, bin_pow_int, cmp_eq_int, cmp_ne_int, cmp_lt, cmp_le, cmp_gt, cmp_ge, cmp_isin, cmp_notin, cmp_is, cmp_isnot, cmpLt_int, cmpLe_int, isD_none, isD_bool, isNone, bi_len_list, bi_len_tuple, bi_abs, bi_max2, bi_min2, bi_sum, bi_all, bi_any, bi_list_list, bi_list_tuple, bi_tuple_list, bi_tuple_tuple, bi_sorted_list, bi_sorted_tuple, bi_int_int, bi_int_bool, bi_maxL, bi_minL, items_list, items_tuple, intsD, isT, mu_append, mu_pop, mu_extend, DI.ix_list, DI.ix_tuple, DI.sl_list, DI.sl_tuple, partI, cutD, HT.sIx, atI_0, atI_1, atI_2, atI_3, L2.ixN, setS, bt_nm, bt_tp_tuple, bt_tp_list, bt_stp, bt_stp_list, bts_nil, bts_cons, CTs.len, lcL, lcC, forL, iter_list, iter_tuple, wipeR, restoreR, wb, outR, retR, setPar, Arg.slot?, notTS, limLen, kindOf, List.filterMap_cons, List.filterMap_nil]) ?_
  refine exs_nx (ρ1 := [some (.s (ns.map .int)), some (.d (.int (k : Nat))), some (feedR a2 b2), some (.d A), some (.d B), x5, x6, x7, x8, x9]) (by simp [e70, e70', evr, runF, lentR, exs, ex, ev, evT, evs, evb, eva, evr, evTs, evI, evC, bw_var, bw_cst, bw_glob, bw_bin, bw_neg, bw_cmp, bw_chain, bw_and, bw_or, bw_not, bw_ite, bw_tup, bw_lst, bw_call, bw_callK, pick, bw_bi, bw_isi, bw_mu, bw_mt, bw_ix, bw_sl, bw_rev, bw_slen, bw_six, bw_lc, bw_lc2, bw_sset, bw_cp, bw_maxd, bw_dsp, bw_dget, bw_dix, bw_dzip, bw_gget, bw_gix, bw_ch3, bw_rpr, kOf, gt, rd, rds, ra, ras, toD_d, toD_l, toD_s, toD_k, frz_d, frz_l, frz_s, frz_k, tru_bool, tru_int, tru_none, tru_list, tru_tuple, bin_add_int, bin_add_list, bin_add_tuple, bin_add_str, bin_sub_int, bin_mul_int, bin_mul_list, bin_mul_tuple, bin_fdiv_int, bin_mod_int, bin_pow_int, cmp_eq_int, cmp_ne_int, cmp_lt, cmp_le, cmp_gt, cmp_ge, cmp_isin, cmp_notin, cmp_is, cmp_isnot, cmpLt_int, cmpLe_int, isD_none, isD_bool, isNone, bi_len_list, bi_len_tuple, bi_abs, bi_max2, bi_min2, bi_sum, bi_all, bi_any, bi_list_list, bi_list_tuple, bi_tuple_list, bi_tuple_tuple, bi_sorted_list, bi_sorted_tuple, bi_int_int, bi_int_bool, bi_maxL, bi_minL, items_list, items_tuple, intsD, isT, mu_append, mu_pop, mu_extend, DI.ix_list, DI.ix_tuple, DI.sl_list, DI.sl_tuple, partI, cutD, HT.sIx, atI_0, atI_1, atI_2, atI_3, L2.ixN, setS, bt_nm, bt_tp_tuple, bt_tp_list, bt_stp, bt_stp_list, bts_nil, bts_cons, CTs.len, lcL, lcC, forL, iter_list, iter_tuple, wipeR, restoreR, wb, outR, retR, setPar, Arg.slot?, notTS, limLen, kindOf, List.filterMap_cons, List.filterMap_nil]) ?_
  refine exs_nx (ρ1 := [some (.s (ns.map .int)), some (.d (.int (k : Nat))), some (feedR a2 b2), some (.d A), some (.d B), some (.d C), x6, x7, x8, x9]) (by simp [c1, runF, lentR, exs, ex, ev, evT, evs, evb, eva, evr, evTs, evI, evC, bw_var, bw_cst, bw_glob, bw_bin, bw_neg, bw_cmp, bw_chain, bw_and, bw_or, bw_not, bw_ite, bw_tup, bw_lst, bw_call, bw_callK, pick, bw_bi, bw_isi, bw_mu, bw_mt, bw_ix, bw_sl, bw_rev, bw_slen, bw_six, bw_lc, bw_lc2, bw_sset, bw_cp, bw_maxd, bw_dsp, bw_dget, bw_dix, bw_dzip, bw_gget, bw_gix, bw_ch3, bw_rpr, kOf, gt, rd, rds, ra, ras, toD_d, toD_l, toD_s, toD_k, frz_d, frz_l, frz_s, frz_k, tru_bool, tru_int, tru_none, tru_list, tru_tuple, bin_add_int, bin_add_list, bin_add_tuple, bin_add_str, bin_sub_int, bin_mul_int, bin_mul_list, bin_mul_tuple, bin_fdiv_int, bin_mod_int, bin_pow_int, cmp_eq_int, cmp_ne_int, cmp_lt, cmp_le, cmp_gt, cmp_ge, cmp_isin, cmp_notin, cmp_is, cmp_isnot, cmpLt_int, cmpLe_int, isD_none, isD_bool, isNone, bi_len_list, bi_len_tuple, bi_abs, bi_max2, bi_min2, bi_sum, bi_all, bi_any, bi_list_list, bi_list_tuple, bi_tuple_list, bi_tuple_tuple, bi_sorted_list, bi_sorted_tuple, bi_int_int, bi_int_bool, bi_maxL, bi_minL, items_list, items_tuple, intsD, isT, mu_append, mu_pop, mu_extend, DI.ix_list, DI.ix_tuple, DI.sl_list, DI.sl_tuple, partI, cutD, HT.sIx, atI_0, atI_1, atI_2, atI_3, L2.ixN, setS, bt_nm, bt_tp_tuple, bt_tp_list, bt_stp, bt_stp_list, bts_nil, bts_cons, CTs.len, lcL, lcC, forL, iter_list, iter_tuple, wipeR, restoreR, wb, outR, retR, setPar, Arg.slot?, notTS, limLen, kindOf, List.filterMap_cons, List.filterMap_nil]) ?_
  refine exs_nx (ρ1 := [some (.s (ns.map .int)), some (.d (.int (k : Nat))), some (feedR a2 b2), some (.d A), some (.d B), some (.d C), x6, x7, x8, x9]) (by simp [evT, c2, c3, c4, c7, runF, lentR, exs, ex, ev, evT, evs, evb, eva, evr, evTs, evI, evC, bw_var, bw_cst, bw_glob, bw_bin, bw_neg, bw_cmp, bw_chain, bw_and, bw_or, bw_not, bw_ite, bw_tup, bw_lst, bw_call, bw_callK, pick, bw_bi, bw_isi, bw_mu, bw_mt, bw_ix, bw_sl, bw_rev, bw_slen, bw_six, bw_lc, bw_lc2, bw_sset, bw_cp, bw_maxd, bw_dsp, bw_dget, bw_dix, bw_dzip, bw_gget, bw_gix, bw_ch3, bw_rpr, kOf, gt, rd, rds, ra, ras, toD_d, toD_l, toD_s, toD_k, frz_d, frz_l, frz_s, frz_k, tru_bool, tru_int, tru_none, tru_list, tru_tuple, bin_add_int, bin_add_list, bin_add_tuple, bin_add_str, bin_sub_int, bin_mul_int, bin_mul_list, bin_mul_tuple, bin_fdiv_int, bin_mod_int, bin_pow_int, cmp_eq_int, cmp_ne_int, cmp_lt, cmp_le, cmp_gt, cmp_ge, cmp_isin, cmp_notin, cmp_is, cmp_isnot, cmpLt_int, cmpLe_int, isD_none, isD_bool, isNone, bi_len_list, bi_len_tuple, bi_abs, bi_max2, bi_min2, bi_sum, bi_all, bi_any, bi_list_list, bi_list_tuple, bi_tuple_list, bi_tuple_tuple, bi_sorted_list, bi_sorted_tuple, bi_int_int, bi_int_bool, bi_maxL, bi_minL, items_list, items_tuple, intsD, isT, mu_append, mu_pop, mu_extend, DI.ix_list, DI.ix_tuple, DI.sl_list, DI.sl_tuple, partI, cutD, HT.sIx, atI_0, atI_1, atI_2, atI_3, L2.ixN, setS, bt_nm, bt_tp_tuple, bt_tp_list, bt_stp, bt_stp_list, bts_nil, bts_cons, CTs.len, lcL, lcC, forL, iter_list, iter_tuple, wipeR, restoreR, wb, outR, retR, setPar, Arg.slot?, notTS, limLen, kindOf, List.filterMap_cons, List.filterMap_nil]) ?_
  refine exs_nx (s := l0_119) (ex_for (xs := [A, B]) (by simp [runF, lentR, exs, ex, ev, evT, evs, evb, eva, evr, evTs, evI, evC, bw_var, bw_cst, bw_glob, bw_bin, bw_neg, bw_cmp, bw_chain, bw_and, bw_or, bw_not, bw_ite, bw_tup, bw_lst, bw_call, bw_callK, pick, bw_bi, bw_isi, bw_mu, bw_mt, bw_ix, bw_sl, bw_rev, bw_slen, bw_six, bw_lc, bw_lc2, bw_sset, bw_cp, bw_maxd, bw_dsp, bw_dget, bw_dix, bw_dzip, bw_gget, bw_gix, bw_ch3, bw_rpr, kOf, gt, rd, rds, ra, ras, toD_d, toD_l, toD_s, toD_k, frz_d, frz_l, frz_s, frz_k, tru_bool, tru_int, tru_none, tru_list, tru_tuple, bin_add_int, bin_add_list, bin_add_tuple, bin_add_str, bin_sub_int, bin_mul_int, bin_mul_list, bin_mul_tuple, bin_fdiv_int, bin_mod_int, bin_pow_int, cmp_eq_int, cmp_ne_int, cmp_lt, cmp_le, cmp_gt, cmp_ge, cmp_isin, cmp_notin, cmp_is, cmp_isnot, cmpLt_int, cmpLe_int, isD_none, isD_bool, isNone, bi_len_list, bi_len_tuple, bi_abs, bi_max2, bi_min2, bi_sum, bi_all, bi_any, bi_list_list, bi_list_tuple, bi_tuple_list, bi_tuple_tuple, bi_sorted_list, bi_sorted_tuple, bi_int_int, bi_int_bool, bi_maxL, bi_minL, items_list, items_tuple, intsD, isT, mu_append, mu_pop, mu_extend, DI.ix_list, DI.ix_tuple, DI.sl_list, DI.sl_tuple, partI, cutD, HT.sIx, atI_0, atI_1, atI_2, atI_3, L2.ixN, setS, bt_nm, bt_tp_tuple, bt_tp_list, bt_stp, bt_stp_list, bts_nil, bts_cons, CTs.len, lcL, lcC, forL, iter_list, iter_tuple, wipeR, restoreR, wb, outR, retR, setPar, Arg.slot?, notTS, limLen, kindOf, List.filterMap_cons, List.filterMap_nil]) (forL_nx l1 (forL_nx l2 forL_nil))) exs_nil
theorem law_pure {T : Tab} (H : Has T) (ns : List Int) : Yes (DI.Run T 100 10 119) ns := by
  have := H.eq
  subst this
  obtain ⟨m, hm, he⟩ := rng_script (DI.Run T0 100 9) ns [none, none, none, none, none, none, none, none, none] 1 6 (by omega) (by omega) (by omega)
  obtain ⟨ρ', hl, x1, x2, x3, x4, x5, x6, x7, x8, x9, rfl⟩ := forL_inv (xs := (List.range m).map fun (i : Nat) => .int (i : Int)) (f := forF (DI.Run T0 100 9) 100 [] (.nm 1) bodyL)
    (fun ρ => ∃ x1 x2 x3 x4 x5 x6 x7 x8 x9, ρ = [some (scr ns), x1, x2, x3, x4, x5, x6, x7, x8, x9]) (fun x hx ρ ⟨x1, x2, x3, x4, x5, x6, x7, x8, x9, e⟩ => by
      subst e
      obtain ⟨i, hi, rfl⟩ := List.mem_map.mp hx
      have hi' := List.mem_range.mp hi
      obtain ⟨y1, y2, y3, y4, y5, y6, y7, y8, y9, h⟩ := turnL ns i (by omega) x1 x2 x3 x4 x5 x6 x7 x8 x9
      exact ⟨_, h, y1, y2, y3, y4, y5, y6, y7, y8, y9, rfl⟩) (ρ := [some (scr ns), none, none, none, none, none, none, none, none, none]) ⟨_, _, _, _, _, _, _, _, _, rfl⟩
  exact ⟨[scr ns], run_of (T := T0) (wf := 100) (n := 9) (f := 119) (fd := F119) rfl rfl (by decide) rfl (exs_nx (s := l1_119) (ex_for he hl) (exs_rt (by rw [ex, ev]; rfl))) rfl rfl⟩
end K36

namespace K36
open PySem DI DB
/-- 65=joined 66=back_of 67=way_of 68=is_ring 84=ring_between 85=turned_about 86=crossed 87=all_turnings 88=ring_parts 7=_law_feed 8=_law_take 70=_law_ring 71=_law_joined 116=_law_back 117=_law_is_turning 118=_law_is_ring 119=law -/
def T : Tab := fun i => ([(65, F65), (66, F66), (67, F67), (68, F68), (84, F84), (85, F85), (86, F86), (87, F87), (88, F88), (7, F7), (8, F8), (70, F70), (71, F71), (116, F116), (117, F117), (118, F118), (119, F119)] : List (Nat × FD)).lookup i
end K36

namespace K36
open PySem DI DB
def stm (i : Nat) : Stmt := PySem.Challenge.pw_cleanloan_k36_rings.main.body.getD i (.Pass ⟨0, 0, 0, 0⟩)
def e_joined : Ent := ⟨65, "joined", ["one", "other", "place"], ["one", "other"], stm 2, F65, true, []⟩
def e_back_of : Ent := ⟨66, "back_of", ["one", "place"], ["one"], stm 3, F66, true, []⟩
def e_way_of : Ent := ⟨67, "way_of", ["one", "found"], ["one"], stm 4, F67, true, []⟩
def e_is_ring : Ent := ⟨68, "is_ring", ["one"], ["one"], stm 5, F68, true, []⟩
def e_ring_between : Ent := ⟨84, "ring_between", ["one", "other", "places", "place"], ["one", "other"], stm 6, F84, true, []⟩
def e_turned_about : Ent := ⟨85, "turned_about", ["one", "turning"], ["one", "turning"], stm 7, F85, true, []⟩
def e_crossed : Ent := ⟨86, "crossed", ["one", "other"], ["one", "other"], stm 8, F86, true, []⟩
def e_all_turnings : Ent := ⟨87, "all_turnings", ["found", "turn", "some", "place"], [], stm 9, F87, true, []⟩
def e_ring_parts : Ent := ⟨88, "ring_parts", ["ring", "first", "second", "turning"], ["ring"], stm 10, F88, true, []⟩
def e__law_feed : Ent := ⟨7, "_law_feed", ["_law_script", "_law_k", "_law_one", "_law_digits"], ["_law_script", "_law_k"], stm 12, F7, true, []⟩
def e__law_take : Ent := ⟨8, "_law_take", ["_law_feed_here", "_law_many", "_law_found"], ["_law_feed_here", "_law_many"], stm 13, F8, true, []⟩
def e__law_ring : Ent := ⟨70, "_law_ring", ["_law_feed_here", "_law_left", "_law_way", "_law_place", "_law_found", "_law_k"], ["_law_feed_here"], stm 14, F70, true, []⟩
def e__law_joined : Ent := ⟨71, "_law_joined", ["_law_some", "_law_found", "_law_place", "_law_one"], ["_law_some"], stm 15, F71, true, []⟩
def e__law_back : Ent := ⟨116, "_law_back", ["_law_one", "_law_found", "_law_place"], ["_law_one"], stm 16, F116, true, []⟩
def e__law_is_turning : Ent := ⟨117, "_law_is_turning", ["_law_thing"], ["_law_thing"], stm 17, F117, true, []⟩
def e__law_is_ring : Ent := ⟨118, "_law_is_ring", ["_law_one", "_law_some"], ["_law_one"], stm 18, F118, true, []⟩
def e_law : Ent := ⟨119, "law", ["_law_script", "_law_k", "_law_feed_here", "_law_one", "_law_other", "_law_turning", "_law_ring_here", "_law_told", "_law_first", "_law_second"], ["_law_script"], stm 19, F119, true, []⟩
def law : Lw where
  tab := (e_joined :: e_back_of :: e_way_of :: e_is_ring :: e_ring_between :: e_turned_about :: e_crossed :: e_all_turnings :: e_ring_parts :: e__law_feed :: e__law_take :: e__law_ring :: e__law_joined :: e__law_back :: e__law_is_turning :: e__law_is_ring :: e_law :: [])
  ft := (("joined", 65, [false, false]) :: ("back_of", 66, [false]) :: ("way_of", 67, [false]) :: ("is_ring", 68, [false]) :: ("ring_between", 84, [false, false]) :: ("turned_about", 85, [false, false]) :: ("crossed", 86, [false, false]) :: ("all_turnings", 87, []) :: ("ring_parts", 88, [false]) :: ("_law_feed", 7, [false, false]) :: ("_law_take", 8, [true, false]) :: ("_law_ring", 70, [true]) :: ("_law_joined", 71, [false]) :: ("_law_back", 116, [false]) :: ("_law_is_turning", 117, [false]) :: ("_law_is_ring", 118, [false]) :: ("law", 119, [false]) :: [])
  ct := [("STILL", (.tuple [(.int 0), (.int 1), (.int 2), (.int 3), (.int 4)]))]
  bu := ["abs", "dict", "isinstance", "len", "max", "min", "range", "sorted", "tuple", "zip"]
  kt := []
set_option maxHeartbeats 0 in
theorem ft_ok : ckFt law = true := by decide +kernel
theorem tT_ok : ∀ e ∈ law.tab, law.T e.id = some e.fd := by
  intro e he
  simp only [law, List.mem_cons, List.not_mem_nil, or_false] at he
  rcases he with rfl | rfl | rfl | rfl | rfl | rfl | rfl | rfl | rfl | rfl | rfl | rfl | rfl | rfl | rfl | rfl | rfl <;> rfl
set_option maxHeartbeats 0 in
theorem ck_ok : law.tab.all (ckEnt law) = true := by decide +kernel
end K36

namespace K36
open PySem DI DB L2
theorem law_yes : ∀ ns : List Int, ns.length ≤ 63 → Yes (Run law.T 100 10 119) ns := fun ns _ => law_pure (T := law.T) (by constructor <;> first | rfl | (constructor <;> rfl)) ns
section
variable {l : PySem.W.OpenLaw} {w : World} {K : PySem.W.Frag} {h : Heap} {mg : Str → Option Value}
set_option maxHeartbeats 0 in
/-- what the top has written -/
theorem all_mk {fa : Addr} {f0 f1 f2 f3 f4 f5 f6 f7 f8 f9 f10 f11 f12 f13 f14 f15 f16 : Addr} {od0 an0 od1 an1 od2 an2 od3 an3 od4 an4 od5 an5 od6 an6 od7 an7 od8 an8 od9 an9 od10 an10 od11 an11 od12 an12 od13 an13 od14 an14 od15 an15 od16 an16 : Option Addr} {sl0 sl1 sl2 sl3 sl4 sl5 sl6 sl7 sl8 sl9 sl10 sl11 sl12 sl13 sl14 sl15 sl16 : Array (Option Value)} {oc0 kV0 dc0 pm0 cd0 ct0 oc1 kV1 dc1 pm1 cd1 ct1 oc2 kV2 dc2 pm2 cd2 ct2 oc3 kV3 dc3 pm3 cd3 ct3 oc4 kV4 dc4 pm4 cd4 ct4 oc5 kV5 dc5 pm5 cd5 ct5 oc6 kV6 dc6 pm6 cd6 ct6 oc7 kV7 dc7 pm7 cd7 ct7 oc8 kV8 dc8 pm8 cd8 ct8 oc9 kV9 dc9 pm9 cd9 ct9 oc10 kV10 dc10 pm10 cd10 ct10 oc11 kV11 dc11 pm11 cd11 ct11 oc12 kV12 dc12 pm12 cd12 ct12 oc13 kV13 dc13 pm13 cd13 ct13 oc14 kV14 dc14 pm14 cd14 ct14 oc15 kV15 dc15 pm15 cd15 ct15 oc16 kV16 dc16 pm16 cd16 ct16 : Value}
    {c0 : Addr} {i0 : Array Value} {n0 : Nat}
    {u_0 : Value}
    (KX : K.In h) (G : h.Ns mainGlobals mg) (hfa : mg "law" = some (.ref fa))
    (nl : PySem.W.nsIn K cStatics digitsName = some none)
    (a0 : PySem.W.nsIn K mainGlobals "joined" = some (some (.ref f0)))
    (l0 : K.lookup f0 = some ⟨oc0, od0, .func (PySem.W.fnOf "joined" "joined" (L2.defArgs (stm 2)) (L2.defBody (stm 2)) (L2.defScope (stm 2)) .none kV0 dc0 pm0 an0 cd0 ct0), sl0⟩)
    (c0_ : PySem.W.codeIn K cd0 "joined" = true) (k0 : PySem.W.keepIn K (.ref f0) = true)
    (a1 : PySem.W.nsIn K mainGlobals "back_of" = some (some (.ref f1)))
    (l1 : K.lookup f1 = some ⟨oc1, od1, .func (PySem.W.fnOf "back_of" "back_of" (L2.defArgs (stm 3)) (L2.defBody (stm 3)) (L2.defScope (stm 3)) .none kV1 dc1 pm1 an1 cd1 ct1), sl1⟩)
    (c1_ : PySem.W.codeIn K cd1 "back_of" = true) (k1 : PySem.W.keepIn K (.ref f1) = true)
    (a2 : PySem.W.nsIn K mainGlobals "way_of" = some (some (.ref f2)))
    (l2 : K.lookup f2 = some ⟨oc2, od2, .func (PySem.W.fnOf "way_of" "way_of" (L2.defArgs (stm 4)) (L2.defBody (stm 4)) (L2.defScope (stm 4)) .none kV2 dc2 pm2 an2 cd2 ct2), sl2⟩)
    (c2_ : PySem.W.codeIn K cd2 "way_of" = true) (k2 : PySem.W.keepIn K (.ref f2) = true)
    (a3 : PySem.W.nsIn K mainGlobals "is_ring" = some (some (.ref f3)))
    (l3 : K.lookup f3 = some ⟨oc3, od3, .func (PySem.W.fnOf "is_ring" "is_ring" (L2.defArgs (stm 5)) (L2.defBody (stm 5)) (L2.defScope (stm 5)) .none kV3 dc3 pm3 an3 cd3 ct3), sl3⟩)
    (c3_ : PySem.W.codeIn K cd3 "is_ring" = true) (k3 : PySem.W.keepIn K (.ref f3) = true)
    (a4 : PySem.W.nsIn K mainGlobals "ring_between" = some (some (.ref f4)))
    (l4 : K.lookup f4 = some ⟨oc4, od4, .func (PySem.W.fnOf "ring_between" "ring_between" (L2.defArgs (stm 6)) (L2.defBody (stm 6)) (L2.defScope (stm 6)) .none kV4 dc4 pm4 an4 cd4 ct4), sl4⟩)
    (c4_ : PySem.W.codeIn K cd4 "ring_between" = true) (k4 : PySem.W.keepIn K (.ref f4) = true)
    (a5 : PySem.W.nsIn K mainGlobals "turned_about" = some (some (.ref f5)))
    (l5 : K.lookup f5 = some ⟨oc5, od5, .func (PySem.W.fnOf "turned_about" "turned_about" (L2.defArgs (stm 7)) (L2.defBody (stm 7)) (L2.defScope (stm 7)) .none kV5 dc5 pm5 an5 cd5 ct5), sl5⟩)
    (c5_ : PySem.W.codeIn K cd5 "turned_about" = true) (k5 : PySem.W.keepIn K (.ref f5) = true)
    (a6 : PySem.W.nsIn K mainGlobals "crossed" = some (some (.ref f6)))
    (l6 : K.lookup f6 = some ⟨oc6, od6, .func (PySem.W.fnOf "crossed" "crossed" (L2.defArgs (stm 8)) (L2.defBody (stm 8)) (L2.defScope (stm 8)) .none kV6 dc6 pm6 an6 cd6 ct6), sl6⟩)
    (c6_ : PySem.W.codeIn K cd6 "crossed" = true) (k6 : PySem.W.keepIn K (.ref f6) = true)
    (a7 : PySem.W.nsIn K mainGlobals "all_turnings" = some (some (.ref f7)))
    (l7 : K.lookup f7 = some ⟨oc7, od7, .func (PySem.W.fnOf "all_turnings" "all_turnings" (L2.defArgs (stm 9)) (L2.defBody (stm 9)) (L2.defScope (stm 9)) .none kV7 dc7 pm7 an7 cd7 ct7), sl7⟩)
    (c7_ : PySem.W.codeIn K cd7 "all_turnings" = true) (k7 : PySem.W.keepIn K (.ref f7) = true)
    (a8 : PySem.W.nsIn K mainGlobals "ring_parts" = some (some (.ref f8)))
    (l8 : K.lookup f8 = some ⟨oc8, od8, .func (PySem.W.fnOf "ring_parts" "ring_parts" (L2.defArgs (stm 10)) (L2.defBody (stm 10)) (L2.defScope (stm 10)) .none kV8 dc8 pm8 an8 cd8 ct8), sl8⟩)
    (c8_ : PySem.W.codeIn K cd8 "ring_parts" = true) (k8 : PySem.W.keepIn K (.ref f8) = true)
    (a9 : PySem.W.nsIn K mainGlobals "_law_feed" = some (some (.ref f9)))
    (l9 : K.lookup f9 = some ⟨oc9, od9, .func (PySem.W.fnOf "_law_feed" "_law_feed" (L2.defArgs (stm 12)) (L2.defBody (stm 12)) (L2.defScope (stm 12)) .none kV9 dc9 pm9 an9 cd9 ct9), sl9⟩)
    (c9_ : PySem.W.codeIn K cd9 "_law_feed" = true) (k9 : PySem.W.keepIn K (.ref f9) = true)
    (a10 : PySem.W.nsIn K mainGlobals "_law_take" = some (some (.ref f10)))
    (l10 : K.lookup f10 = some ⟨oc10, od10, .func (PySem.W.fnOf "_law_take" "_law_take" (L2.defArgs (stm 13)) (L2.defBody (stm 13)) (L2.defScope (stm 13)) .none kV10 dc10 pm10 an10 cd10 ct10), sl10⟩)
    (c10_ : PySem.W.codeIn K cd10 "_law_take" = true) (k10 : PySem.W.keepIn K (.ref f10) = true)
    (a11 : PySem.W.nsIn K mainGlobals "_law_ring" = some (some (.ref f11)))
    (l11 : K.lookup f11 = some ⟨oc11, od11, .func (PySem.W.fnOf "_law_ring" "_law_ring" (L2.defArgs (stm 14)) (L2.defBody (stm 14)) (L2.defScope (stm 14)) .none kV11 dc11 pm11 an11 cd11 ct11), sl11⟩)
    (c11_ : PySem.W.codeIn K cd11 "_law_ring" = true) (k11 : PySem.W.keepIn K (.ref f11) = true)
    (a12 : PySem.W.nsIn K mainGlobals "_law_joined" = some (some (.ref f12)))
    (l12 : K.lookup f12 = some ⟨oc12, od12, .func (PySem.W.fnOf "_law_joined" "_law_joined" (L2.defArgs (stm 15)) (L2.defBody (stm 15)) (L2.defScope (stm 15)) .none kV12 dc12 pm12 an12 cd12 ct12), sl12⟩)
    (c12_ : PySem.W.codeIn K cd12 "_law_joined" = true) (k12 : PySem.W.keepIn K (.ref f12) = true)
    (a13 : PySem.W.nsIn K mainGlobals "_law_back" = some (some (.ref f13)))
    (l13 : K.lookup f13 = some ⟨oc13, od13, .func (PySem.W.fnOf "_law_back" "_law_back" (L2.defArgs (stm 16)) (L2.defBody (stm 16)) (L2.defScope (stm 16)) .none kV13 dc13 pm13 an13 cd13 ct13), sl13⟩)
    (c13_ : PySem.W.codeIn K cd13 "_law_back" = true) (k13 : PySem.W.keepIn K (.ref f13) = true)
    (a14 : PySem.W.nsIn K mainGlobals "_law_is_turning" = some (some (.ref f14)))
    (l14 : K.lookup f14 = some ⟨oc14, od14, .func (PySem.W.fnOf "_law_is_turning" "_law_is_turning" (L2.defArgs (stm 17)) (L2.defBody (stm 17)) (L2.defScope (stm 17)) .none kV14 dc14 pm14 an14 cd14 ct14), sl14⟩)
    (c14_ : PySem.W.codeIn K cd14 "_law_is_turning" = true) (k14 : PySem.W.keepIn K (.ref f14) = true)
    (a15 : PySem.W.nsIn K mainGlobals "_law_is_ring" = some (some (.ref f15)))
    (l15 : K.lookup f15 = some ⟨oc15, od15, .func (PySem.W.fnOf "_law_is_ring" "_law_is_ring" (L2.defArgs (stm 18)) (L2.defBody (stm 18)) (L2.defScope (stm 18)) .none kV15 dc15 pm15 an15 cd15 ct15), sl15⟩)
    (c15_ : PySem.W.codeIn K cd15 "_law_is_ring" = true) (k15 : PySem.W.keepIn K (.ref f15) = true)
    (a16 : PySem.W.nsIn K mainGlobals "law" = some (some (.ref f16)))
    (l16 : K.lookup f16 = some ⟨oc16, od16, .func (PySem.W.fnOf "law" "law" (L2.defArgs (stm 19)) (L2.defBody (stm 19)) (L2.defScope (stm 19)) .none kV16 dc16 pm16 an16 cd16 ct16), sl16⟩)
    (c16_ : PySem.W.codeIn K cd16 "law" = true) (k16 : PySem.W.keepIn K (.ref f16) = true)
    (b0 : PySem.W.nsIn K mainGlobals "abs" = some none)
    (b1 : PySem.W.nsIn K mainGlobals "dict" = some none)
    (b2 : PySem.W.nsIn K mainGlobals "isinstance" = some none)
    (b3 : PySem.W.nsIn K mainGlobals "len" = some none)
    (b4 : PySem.W.nsIn K mainGlobals "max" = some none)
    (b5 : PySem.W.nsIn K mainGlobals "min" = some none)
    (b6 : PySem.W.nsIn K mainGlobals "range" = some none)
    (b7 : PySem.W.nsIn K mainGlobals "sorted" = some none)
    (b8 : PySem.W.nsIn K mainGlobals "tuple" = some none)
    (b9 : PySem.W.nsIn K mainGlobals "zip" = some none)
    (g0 : PySem.W.nsIn K mainGlobals "STILL" = some (some u_0)) (r0 : RelV (V.ref c0) u_0)
    (q0 : K.lookup c0 = some (tobj i0 n0)) (y0 : Vals [(V.int 0), (V.int 1), (V.int 2), (V.int 3), (V.int 4)] i0.toList) (z0 : i0.size ≤ sizeLine)
    : ∃ fd : FuncData, Binds K fd ["_law_script"] [] ∧ ∀ base : Heap, K.In base → base.Ns mainGlobals mg → FnG l.prog w K mg base 10 fa fd ["_law_script"] (spG K (Run law.T 100 10 119)) := by
  refine law_of (e := e_law) (li := 119) hfa rfl rfl (by simp [law]) rfl ft_ok tT_ok ck_ok (fun e he => ?_) (fun x hx => ?_) (fun p hp => ?_) nl
  · simp only [law, List.mem_cons, List.not_mem_nil, or_false] at he
    rcases he with rfl | rfl | rfl | rfl | rfl | rfl | rfl | rfl | rfl | rfl | rfl | rfl | rfl | rfl | rfl | rfl | rfl
    · exact defOk_mk (e := e_joined) KX G a0 l0 c0_ k0 (fun _ _ _ _ _ _ _ us hl => match us, hl with | [_, _], _ => rfl) shs_nil
    · exact defOk_mk (e := e_back_of) KX G a1 l1 c1_ k1 (fun _ _ _ _ _ _ _ us hl => match us, hl with | [_], _ => rfl) shs_nil
    · exact defOk_mk (e := e_way_of) KX G a2 l2 c2_ k2 (fun _ _ _ _ _ _ _ us hl => match us, hl with | [_], _ => rfl) shs_nil
    · exact defOk_mk (e := e_is_ring) KX G a3 l3 c3_ k3 (fun _ _ _ _ _ _ _ us hl => match us, hl with | [_], _ => rfl) shs_nil
    · exact defOk_mk (e := e_ring_between) KX G a4 l4 c4_ k4 (fun _ _ _ _ _ _ _ us hl => match us, hl with | [_, _], _ => rfl) shs_nil
    · exact defOk_mk (e := e_turned_about) KX G a5 l5 c5_ k5 (fun _ _ _ _ _ _ _ us hl => match us, hl with | [_, _], _ => rfl) shs_nil
    · exact defOk_mk (e := e_crossed) KX G a6 l6 c6_ k6 (fun _ _ _ _ _ _ _ us hl => match us, hl with | [_, _], _ => rfl) shs_nil
    · exact defOk_mk (e := e_all_turnings) KX G a7 l7 c7_ k7 (fun _ _ _ _ _ _ _ us hl => match us, hl with | [], _ => rfl) shs_nil
    · exact defOk_mk (e := e_ring_parts) KX G a8 l8 c8_ k8 (fun _ _ _ _ _ _ _ us hl => match us, hl with | [_], _ => rfl) shs_nil
    · exact defOk_mk (e := e__law_feed) KX G a9 l9 c9_ k9 (fun _ _ _ _ _ _ _ us hl => match us, hl with | [_, _], _ => rfl) shs_nil
    · exact defOk_mk (e := e__law_take) KX G a10 l10 c10_ k10 (fun _ _ _ _ _ _ _ us hl => match us, hl with | [_, _], _ => rfl) shs_nil
    · exact defOk_mk (e := e__law_ring) KX G a11 l11 c11_ k11 (fun _ _ _ _ _ _ _ us hl => match us, hl with | [_], _ => rfl) shs_nil
    · exact defOk_mk (e := e__law_joined) KX G a12 l12 c12_ k12 (fun _ _ _ _ _ _ _ us hl => match us, hl with | [_], _ => rfl) shs_nil
    · exact defOk_mk (e := e__law_back) KX G a13 l13 c13_ k13 (fun _ _ _ _ _ _ _ us hl => match us, hl with | [_], _ => rfl) shs_nil
    · exact defOk_mk (e := e__law_is_turning) KX G a14 l14 c14_ k14 (fun _ _ _ _ _ _ _ us hl => match us, hl with | [_], _ => rfl) shs_nil
    · exact defOk_mk (e := e__law_is_ring) KX G a15 l15 c15_ k15 (fun _ _ _ _ _ _ _ us hl => match us, hl with | [_], _ => rfl) shs_nil
    · exact defOk_mk (e := e_law) KX G a16 l16 c16_ k16 (fun _ _ _ _ _ _ _ us hl => match us, hl with | [_], _ => rfl) shs_nil
  · simp only [law, List.mem_cons, List.not_mem_nil, or_false] at hx
    rcases hx with rfl | rfl | rfl | rfl | rfl | rfl | rfl | rfl | rfl | rfl
    · exact PySem.W.mg_none_of KX G b0
    · exact PySem.W.mg_none_of KX G b1
    · exact PySem.W.mg_none_of KX G b2
    · exact PySem.W.mg_none_of KX G b3
    · exact PySem.W.mg_none_of KX G b4
    · exact PySem.W.mg_none_of KX G b5
    · exact PySem.W.mg_none_of KX G b6
    · exact PySem.W.mg_none_of KX G b7
    · exact PySem.W.mg_none_of KX G b8
    · exact PySem.W.mg_none_of KX G b9
  · simp only [law, List.mem_cons, List.not_mem_nil, or_false] at hp
    subst hp
    · exact ⟨u_0, (V.ref c0), PySem.W.mg_of KX G g0, r0, fun H O => (.tup ⟨_, _, .inr ⟨q0, z0, y0⟩⟩ (.cons (.int _) (.cons (.int _) (.cons (.int _) (.cons (.int _) (.cons (.int _) .nil))))))⟩
end
theorem walk {l : PySem.W.OpenLaw} {q : Program} {loose : List Str} {XP : (Str → Option Value) → Heap → Prop} {YP : World → Heap → Prop} {d : DefRec} {K : Params → PySem.W.Frag} (hm : l.most = some 63) (hdf : d.params.defaults = [])
    (hY : ∀ (w : World) (h : Heap), YP w h → (K w.params).In h)
    (F : ∀ (w : World) (mg : Str → Option Value) (fa : Addr) (h : Heap), (K w.params).In h → h.Ns mainGlobals mg → mg d.name = some (.ref fa) →
      ∃ fd : FuncData, Binds (K w.params) fd ["_law_script"] [] ∧ ∀ base : Heap, (K w.params).In base → base.Ns mainGlobals mg → FnG l.prog w (K w.params) mg base 10 fa fd ["_law_script"] (spG (K w.params) (Run law.T 100 10 119))) :
    PySem.W.WalkO q loose XP YP l.row.toRowW d [] (fun f vs => PySem.call f vs) :=
  walkG hm (by decide) hdf ⟨rfl, by decide, by decide⟩ hY law_yes F
end K36

open PySem PySem.W PyProof.Rows in
set_option maxRecDepth 100000 in
set_option maxHeartbeats 0 in
theorem PySem.Challenge.cw_cleanloan_k36_rings_holds : PySem.Challenge.rw_cleanloan_k36_rings.Holds := by
  w_on; o_law; k_head; (case hw => w_witness2)
  k_fill
  refine K36.walk (l := PySem.Challenge.rw_cleanloan_k36_rings) rfl rfl (fun w h Y => PySem.W.kIn_of Y) ?F
  case F =>
    intro w mg fa h KX G hmg
    refine' K36.all_mk KX G hmg ?di_nl ?di_a0 ?di_l0 ?di_c0_ ?di_k0 ?di_a1 ?di_l1 ?di_c1_ ?di_k1 ?di_a2 ?di_l2 ?di_c2_ ?di_k2 ?di_a3 ?di_l3 ?di_c3_ ?di_k3 ?di_a4 ?di_l4 ?di_c4_ ?di_k4 ?di_a5 ?di_l5 ?di_c5_ ?di_k5 ?di_a6 ?di_l6 ?di_c6_ ?di_k6 ?di_a7 ?di_l7 ?di_c7_ ?di_k7 ?di_a8 ?di_l8 ?di_c8_ ?di_k8 ?di_a9 ?di_l9 ?di_c9_ ?di_k9 ?di_a10 ?di_l10 ?di_c10_ ?di_k10 ?di_a11 ?di_l11 ?di_c11_ ?di_k11 ?di_a12 ?di_l12 ?di_c12_ ?di_k12 ?di_a13 ?di_l13 ?di_c13_ ?di_k13 ?di_a14 ?di_l14 ?di_c14_ ?di_k14 ?di_a15 ?di_l15 ?di_c15_ ?di_k15 ?di_a16 ?di_l16 ?di_c16_ ?di_k16 ?di_b0 ?di_b1 ?di_b2 ?di_b3 ?di_b4 ?di_b5 ?di_b6 ?di_b7 ?di_b8 ?di_b9 ?di_g0 ?di_r0 ?di_q0 ?di_y0 ?di_z0
    (case di_nl => k_is)
    (case di_a0 => k_is)
    (case di_l0 => k_is)
    (case di_c0_ => k_is)
    (case di_k0 => k_is)
    (case di_a1 => k_is)
    (case di_l1 => k_is)
    (case di_c1_ => k_is)
    (case di_k1 => k_is)
    (case di_a2 => k_is)
    (case di_l2 => k_is)
    (case di_c2_ => k_is)
    (case di_k2 => k_is)
    (case di_a3 => k_is)
    (case di_l3 => k_is)
    (case di_c3_ => k_is)
    (case di_k3 => k_is)
    (case di_a4 => k_is)
    (case di_l4 => k_is)
    (case di_c4_ => k_is)
    (case di_k4 => k_is)
    (case di_a5 => k_is)
    (case di_l5 => k_is)
    (case di_c5_ => k_is)
    (case di_k5 => k_is)
    (case di_a6 => k_is)
    (case di_l6 => k_is)
    (case di_c6_ => k_is)
    (case di_k6 => k_is)
    (case di_a7 => k_is)
    (case di_l7 => k_is)
    (case di_c7_ => k_is)
    (case di_k7 => k_is)
    (case di_a8 => k_is)
    (case di_l8 => k_is)
    (case di_c8_ => k_is)
    (case di_k8 => k_is)
    (case di_a9 => k_is)
    (case di_l9 => k_is)
    (case di_c9_ => k_is)
    (case di_k9 => k_is)
    (case di_a10 => k_is)
    (case di_l10 => k_is)
    (case di_c10_ => k_is)
    (case di_k10 => k_is)
    (case di_a11 => k_is)
    (case di_l11 => k_is)
    (case di_c11_ => k_is)
    (case di_k11 => k_is)
    (case di_a12 => k_is)
    (case di_l12 => k_is)
    (case di_c12_ => k_is)
    (case di_k12 => k_is)
    (case di_a13 => k_is)
    (case di_l13 => k_is)
    (case di_c13_ => k_is)
    (case di_k13 => k_is)
    (case di_a14 => k_is)
    (case di_l14 => k_is)
    (case di_c14_ => k_is)
    (case di_k14 => k_is)
    (case di_a15 => k_is)
    (case di_l15 => k_is)
    (case di_c15_ => k_is)
    (case di_k15 => k_is)
    (case di_a16 => k_is)
    (case di_l16 => k_is)
    (case di_c16_ => k_is)
    (case di_k16 => k_is)
    (case di_b0 => k_is)
    (case di_b1 => k_is)
    (case di_b2 => k_is)
    (case di_b3 => k_is)
    (case di_b4 => k_is)
    (case di_b5 => k_is)
    (case di_b6 => k_is)
    (case di_b7 => k_is)
    (case di_b8 => k_is)
    (case di_b9 => k_is)
    (case di_g0 => k_is)
    (case di_r0 => first | exact ⟨_, rfl⟩ | rfl)
    (case di_q0 => k_is)
    (case di_y0 => first | exact .nil | (repeat (first | exact .nil | refine .cons (by first | rfl | exact ⟨_, rfl⟩) ?_)))
    (case di_z0 => decide)
#print axioms PySem.Challenge.cw_cleanloan_k36_rings_holds

