import PyProof.Rows.All
import Wide.All
import OpenK.AllK
import Wide.FinOn
import HandS.ForMost
import KE.DataEq
import HandS.Text
import HandS.ForExc
import HandS.Flow
import HandS.Wide
import HandS.IsInst
import HandS.TupAny
import HandS.SortInts
import HandS.Deep
import PyProof.ReprRoads
import HandS.WideBits
import HandS.Zip
import KE.GoesEnumKw
import HandS.Iter
import HandS.Walk
import HandS.More
import HandS.Defaults
import HandS.HeadHook1
import HandS.HeadHook2
import HandS.HeadEnd
import HandS.Head0
import HandS.Head1
import HandS.Head2
import HandS.Ends
import PySem.Challenge.RW_foldhouse_k44_whole_ways_of_rulers
set_option Elab.async false
set_option linter.all false
section
set_option maxRecDepth 100000
set_option maxHeartbeats 200000
/-! A small language of its own over data without a heap, and its evaluator. -/
namespace Fh
open PySem L2

/-- data: what a value stands for -/
inductive D where
  | non | bool (b : Bool) | int (i : Int) | str (s : Str)
  | list (xs : List D) | tup (xs : List D) | dict (ks vs : List D) | fn (f : Nat) | cls (c : Nat)
  deriving Inhabited

/-- an end: a value, an exception of class c made of v, or nothing that is known -/
inductive R (α : Type) where
  | ok (a : α) | ex (c : Nat) (v : D) | bad

def R.bind {α β : Type} : R α → (α → R β) → R β
  | .ok a, f => f a
  | .ex c v, _ => .ex c v
  | .bad, _ => .bad
@[simp] theorem R.bind_ok {α β : Type} (a : α) (f : α → R β) : (R.ok a).bind f = f a := rfl
@[simp] theorem R.bind_ex {α β : Type} (c : Nat) (v : D) (f : α → R β) : (R.ex c v : R α).bind f = .ex c v := rfl
@[simp] theorem R.bind_bad {α β : Type} (f : α → R β) : (R.bad : R α).bind f = .bad := rfl
theorem R.bind_eq_ok {α β : Type} {x : R α} {f : α → R β} {b : β} (h : x.bind f = .ok b) : ∃ a, x = .ok a ∧ f a = .ok b := by
  cases x with
  | ok a => exact ⟨a, rfl, h⟩
  | ex c v => cases h
  | bad => cases h

/-- the greatest length that the model takes for a list -/
abbrev SZ : Nat := 16777216

/-- a text by its codes -/
abbrev cs (l : List Nat) : Str := ⟨l.toArray⟩

mutual
def D.py : D → PyData
  | .non => .none
  | .bool b => .bool b
  | .int i => .int i
  | .str s => .str s
  | .list xs => .list (D.pys xs)
  | .tup xs => .tuple (D.pys xs)
  | .dict ks vs => .dict ((D.pys ks).zip (D.pys vs))
  | .fn _ => .none
  | .cls _ => .none
def D.pys : List D → List PyData
  | [] => []
  | x :: xs => x.py :: D.pys xs
end

mutual
/-- None, boolsD, intsD, texts, lists and tuples of these, not too deep -/
def shp : Nat → D → Bool
  | _, .non => true
  | _, .bool _ => true
  | _, .int _ => true
  | _, .str _ => true
  | n + 1, .list xs => shps n xs
  | n + 1, .tup xs => shps n xs
  | _, _ => false
def shps : Nat → List D → Bool
  | _, [] => true
  | n, x :: xs => shp n x && shps n xs
end

mutual
/-- == of such data -/
def eqv : D → D → Bool
  | .non, .non => true
  | .bool a, .bool b => a == b
  | .bool a, .int j => (if a then 1 else 0) == j
  | .int i, .bool b => i == (if b then 1 else 0)
  | .int i, .int j => i == j
  | .str x, .str y => x == y
  | .list xs, .list ys => eqvs xs ys
  | .tup xs, .tup ys => eqvs xs ys
  | _, _ => false
def eqvs : List D → List D → Bool
  | [], [] => true
  | x :: xs, y :: ys => eqv x y && eqvs xs ys
  | _, _ => false
end

mutual
/-- how much repr may write -/
def wt : D → Nat
  | .non => 4
  | .bool _ => 5
  | .int i => if i.natAbs.log2 < 1920 then i.natAbs.log2 + 2 else SZ + 1
  | .str s => if PyData.strOk s then 10 * s.length + 2 else SZ + 1
  | .list xs => wts xs + 2
  | .tup xs => wts xs + 3
  | .dict ks vs => wts ks + wts vs + 2
  | .fn _ => 0
  | .cls _ => 0
def wts : List D → Nat
  | [] => 0
  | x :: xs => wt x + 2 + wts xs
end

/-- truth -/
def truth : D → R Bool
  | .non => .ok false
  | .bool b => .ok b
  | .int i => .ok (i != 0)
  | .str s => if s.length < SZ then .ok (s.length != 0) else .bad
  | .list xs => .ok (!xs.isEmpty)
  | .tup xs => .ok (!xs.isEmpty)
  | _ => .bad

def scalar : D → Bool
  | .non => true | .bool _ => true | .int _ => true | .str _ => true | _ => false

inductive Ty where | int | bool | str | list | tup | dict
  deriving DecidableEq

def isTy : Ty → D → Bool
  | .int, .int _ => true
  | .int, .bool _ => true
  | .bool, .bool _ => true
  | .str, .str _ => true
  | .list, .list _ => true
  | .tup, .tup _ => true
  | .dict, .dict _ _ => true
  | _, _ => false

def plainD : D → Bool
  | .fn _ => false
  | .cls _ => false
  | _ => true

inductive Prim where
  | add | sub | mul | fdiv | mod | pow | neg
  | lt | le | gt | ge | eq | ne | isin | notin | isq | isnot
  | not
  | idx | slA | slL | slH | slN | slR | slP (k : Nat)
  | len | abs | max1 | max2 | min1 | min2 | sum1 | sum2 | sorted | all | any
  | listof | tupof | intof | boolof | repr | isinst (t : Ty) | isinst2 (t u : Ty)
  | bitlen | index | get2 | join | nuniq | joinS (z : Str)
  deriving DecidableEq

def intsD : List D → Option (List Int)
  | [] => some []
  | .int i :: r => (intsD r).map (i :: ·)
  | _ => none
def strsD : List D → Option (List Str)
  | [] => some []
  | .str i :: r => (strsD r).map (i :: ·)
  | _ => none
def boolsD : List D → Option (List Bool)
  | [] => some []
  | .bool i :: r => (boolsD r).map (i :: ·)
  | _ => none
def listsOf : List D → Option (List (List D))
  | [] => some []
  | .list xs :: r => (listsOf r).map (xs :: ·)
  | _ => none

def small (i : Int) : Bool := decide (-(2 ^ 64) < i ∧ i < 2 ^ 64)

def pAdd : D → D → R D
  | .int a, .int b => .ok (.int (a + b))
  | .list xs, .list ys => if xs.length + ys.length ≤ SZ then .ok (.list (xs ++ ys)) else .bad
  | .str a, .str b => if a.length + b.length ≤ SZ then .ok (.str (a ++ b)) else .bad
  | .tup xs, .tup ys => if xs.length + ys.length ≤ SZ && !xs.isEmpty && !ys.isEmpty then .ok (.tup (xs ++ ys)) else .bad
  | _, _ => .bad
def pSub : D → D → R D
  | .int a, .int b => .ok (.int (a - b))
  | _, _ => .bad
def pMul : D → D → R D
  | .int a, .int b => if small a || small b then .ok (.int (a * b)) else .bad
  | .list xs, .int n => if decide (-(2 ^ 63) ≤ n ∧ n < 2 ^ 63) && decide (xs.length * n.toNat ≤ SZ) then .ok (.list (List.replicate n.toNat xs).flatten) else .bad
  | _, _ => .bad
/-- the divisors that the model takes -/
def divOk (j : Int) : Bool := decide (0 < j ∧ j < 2 ^ 64)
def pDiv : D → D → R D
  | .int a, .int b => if divOk b then .ok (.int (a / b)) else .bad
  | _, _ => .bad
def pMod : D → D → R D
  | .int a, .int b => if 0 < b then .ok (.int (a % b)) else .bad
  | _, _ => .bad
def pPow : D → D → R D
  | .int a, .int b => if decide (0 ≤ b) && decide (b ≤ 1000) && decide (a.natAbs < 2 ^ 1000) then .ok (.int (a ^ b.toNat)) else .bad
  | _, _ => .bad
def pCmp (p : Int → Int → Bool) : D → D → R D
  | .int a, .int b => .ok (.bool (p a b))
  | _, _ => .bad
def pEq (a b : D) : R D := if shp 12 a && shp 12 b then .ok (.bool (eqv a b)) else .bad
def pIn : D → D → R D
  | a, .list xs => if shp 12 a && shp 12 (.list xs) then .ok (.bool (xs.any fun z => eqv z a)) else .bad
  | a, .tup xs => if shp 12 a && shp 12 (.tup xs) then .ok (.bool (xs.any fun z => eqv z a)) else .bad
  | .str a, .str b => .ok (.bool (!(Builtin.Str.occurrences b a 0 b.length 1).isEmpty))
  | _, _ => .bad
def isNon : D → Bool
  | .non => true
  | _ => false
def isB (b : Bool) : D → Bool
  | .bool c => c == b
  | _ => false
def pIs : D → D → R D
  | a, .non => .ok (.bool (isNon a))
  | a, .bool b => .ok (.bool (isB b a))
  | _, _ => .bad
def pNeg : D → R D
  | .int a => .ok (.int (-a))
  | _ => .bad
def pNot (a : D) : R D := (truth a).bind fun b => .ok (.bool (!b))
def at? {α : Type} (xs : List α) (i : Int) : Option α := if 0 ≤ i then xs[i.toNat]? else if -(xs.length : Int) ≤ i then xs[(i + xs.length).toNat]? else none
def pIdx : D → D → R D
  | .list xs, .int i => match at? xs i with | some d => .ok d | none => .bad
  | .tup xs, .int i => match at? xs i with | some d => .ok d | none => .bad
  | .str s, .int i => if s.length ≤ SZ then (match at? s.cps.toList i with | some c => .ok (.str ⟨#[c]⟩) | none => .bad) else .bad
  | _, _ => .bad
def cut {α : Type} (xs : List α) (lo hi : Option Int) : List α := (xs.drop (HT.sIx xs.length 0 lo)).take (HT.sIx xs.length xs.length hi - HT.sIx xs.length 0 lo)
def pSl (lo hi : Option Int) : D → R D
  | .list xs => .ok (.list (cut xs lo hi))
  | .str s => if s.length ≤ SZ then .ok (.str ⟨(cut s.cps.toList lo hi).toArray⟩) else .bad
  | .tup xs => if HT.sIx xs.length 0 lo = 0 ∧ HT.sIx xs.length xs.length hi = xs.length then .bad else .ok (.tup (cut xs lo hi))
  | _ => .bad
def pRev : D → R D
  | .list xs => .ok (.list xs.reverse)
  | _ => .bad
/-- every k-th item from lo on -/
def pick3 {α : Type} (xs : List α) (lo : Option Int) (k : Int) : List α :=
  (sliceRange (sliceBounds lo none (some k) xs.length).1 (sliceBounds lo none (some k) xs.length).2.1 (sliceBounds lo none (some k) xs.length).2.2).filterMap fun i => xs[i]?
def pSlP (k : Nat) (lo : Option Int) : D → R D
  | .list xs => if k = 0 then .bad else .ok (.list (pick3 xs lo k))
  | _ => .bad
def pLen : D → R D
  | .list xs => .ok (.int xs.length)
  | .tup xs => .ok (.int xs.length)
  | .str s => if s.length ≤ SZ then .ok (.int s.length) else .bad
  | .dict ks _ => .ok (.int ks.length)
  | _ => .bad
def pAbs : D → R D
  | .int i => .ok (.int (if i < 0 then -i else i))
  | _ => .bad
def maxI : List Int → Option Int
  | [] => none
  | x :: xs => some (xs.foldl max x)
def minI : List Int → Option Int
  | [] => none
  | x :: xs => some (xs.foldl min x)
def pMaxL : D → R D
  | .list xs => match intsD xs with | some ns => (match maxI ns with | some m => .ok (.int m) | none => .bad) | none => .bad
  | _ => .bad
def pMinL : D → R D
  | .list xs => match intsD xs with | some ns => (match minI ns with | some m => .ok (.int m) | none => .bad) | none => .bad
  | _ => .bad
def pMax2 : D → D → R D
  | .int a, .int b => .ok (.int (if b > a then b else a))
  | _, _ => .bad
def pMin2 : D → D → R D
  | .int a, .int b => .ok (.int (if b < a then b else a))
  | _, _ => .bad
def pSum : D → R D
  | .list xs => match intsD xs with | some ns => .ok (.int ns.sum) | none => .bad
  | _ => .bad
def pSum2 : D → D → R D
  | .list (x :: xs), .list [] => match listsOf (x :: xs) with | some ys => if ys.flatten.length ≤ SZ then .ok (.list ys.flatten) else .bad | none => .bad
  | _, _ => .bad
def pSorted : D → R D
  | .list xs => match intsD xs with
    | some ns => .ok (.list ((ns.mergeSort (fun a b => decide (a ≤ b))).map D.int))
    | none => .bad
  | _ => .bad
def pAll : D → R D
  | .list xs => match boolsD xs with | some bs => .ok (.bool (bs.all id)) | none => .bad
  | _ => .bad
def pAny : D → R D
  | .list xs => match boolsD xs with | some bs => .ok (.bool (bs.any id)) | none => .bad
  | _ => .bad
def pListof : D → R D
  | .list xs => .ok (.list xs)
  | .tup xs => .ok (.list xs)
  | _ => .bad
def pTupof : D → R D
  | .list xs => .ok (.tup xs)
  | _ => .bad
def pInt : D → R D
  | .int i => .ok (.int i)
  | .bool b => .ok (.int (if b then 1 else 0))
  | _ => .bad
def pRepr : D → R D
  | .dict [] [] => .ok (.str (PyData.shown (.dict [])))
  | a => if shp 12 a && decide (wt a ≤ SZ) then .ok (.str a.py.shown) else .bad
def pJoinS (z : Str) : D → R D
  | .list xs => match strsD xs with | some ys => if (ys.map (·.length)).sum + ys.length * z.length ≤ SZ then .ok (.str (Txt.join z ys)) else .bad | none => .bad
  | _ => .bad
/-- how many unlike ones, where all are unlike -/
def pNuniq : D → R D
  | .list xs => match intsD xs with | some ns => if decide ns.Nodup && decide (ns.length ≤ 4000) then .ok (.int ns.length) else .bad | none => .bad
  | _ => .bad
def pBitlen : D → R D
  | .int i => .ok (.int (Builtin.Int.intBits i : Nat))
  | _ => .bad

/-- no exception out of a block -/
def noex {α : Type} : R α → R α
  | .ok a => .ok a
  | _ => .bad
/-- what a built-in makes of values -/
def primR : Prim → List D → R D
  | .add, [a, b] => pAdd a b
  | .sub, [a, b] => pSub a b
  | .mul, [a, b] => pMul a b
  | .fdiv, [a, b] => pDiv a b
  | .mod, [a, b] => pMod a b
  | .pow, [a, b] => pPow a b
  | .neg, [a] => pNeg a
  | .lt, [a, b] => pCmp (fun i j => decide (i < j)) a b
  | .le, [a, b] => pCmp (fun i j => decide (i ≤ j)) a b
  | .gt, [a, b] => pCmp (fun i j => decide (j < i)) a b
  | .ge, [a, b] => pCmp (fun i j => decide (j ≤ i)) a b
  | .eq, [a, b] => pEq a b
  | .ne, [a, b] => (pEq a b).bind pNot
  | .isin, [a, b] => pIn a b
  | .notin, [a, b] => (pIn a b).bind pNot
  | .isq, [a, b] => pIs a b
  | .isnot, [a, b] => (pIs a b).bind pNot
  | .not, [a] => pNot a
  | .idx, [a, b] => pIdx a b
  | .slA, [a, .int i, .int j] => pSl (some i) (some j) a
  | .slL, [a, .int i] => pSl (some i) none a
  | .slH, [a, .int j] => pSl none (some j) a
  | .slN, [a] => pSl none none a
  | .slR, [a] => pRev a
  | .slP k, [a] => pSlP k none a
  | .slP k, [a, .int i] => pSlP k (some i) a
  | .len, [a] => pLen a
  | .abs, [a] => pAbs a
  | .max1, [a] => pMaxL a
  | .min1, [a] => pMinL a
  | .max2, [a, b] => pMax2 a b
  | .min2, [a, b] => pMin2 a b
  | .sum1, [a] => pSum a
  | .sum2, [a, b] => pSum2 a b
  | .sorted, [a] => pSorted a
  | .all, [a] => pAll a
  | .any, [a] => pAny a
  | .listof, [a] => pListof a
  | .tupof, [a] => pTupof a
  | .intof, [a] => pInt a
  | .repr, [a] => pRepr a
  | .isinst t, [a] => if plainD a then .ok (.bool (isTy t a)) else .bad
  | .isinst2 t u, [a] => if plainD a then .ok (.bool (isTy t a || isTy u a)) else .bad
  | .bitlen, [a] => pBitlen a
  | .nuniq, [a] => pNuniq a
  | .joinS z, [a] => pJoinS z a
  | _, _ => .bad

/-- the level of what a built-in makes: 0 (a part of what stood), 1 (new, its parts stood), 9 (no object) -/
def Prim.lv : Prim → Nat
  | .idx | .get2 => 0
  | .add | .mul | .slA | .slL | .slH | .slN | .slR | .slP _ | .sum2 | .sorted | .listof | .tupof => 1
  | _ => 9

/-- .. no exception; what is said to be no object is none -/
def scOk (p : Prim) : R D → R D
  | .ok d => if p.lv = 9 && !scalar d then .bad else .ok d
  | _ => .bad
def prim (p : Prim) (ds : List D) : R D := scOk p (primR p ds)

/-! ### the language -/
inductive Tg where
  | one (i : Nat) | tup (is : List Nat)
mutual
inductive E where
  | cst (d : D)
  | var (i : Nat)
  | glo (g : Nat)
  | prim (p : Prim) (as : Es)
  | bop (isAnd : Bool) (as : Es)
  | ife (c a b : E)
  | lst (as : Es) | tup (as : Es) | dct
  | chain (o1 o2 : Prim) (a b c : E)
  | call (f : Nat) (as : Es)
  | callio (f : Nat) (i : Nat) (as : Es)
  | callq (f : Nat) (i : Nat) (j : Int)
  | callz (f : Nat) (as : Es)
  | comp (elt : E) (own : List Nat) (tg : Tg) (it : It) (ifs : Es)
inductive Es where
  | nil | cons (e : E) (es : Es)
inductive It where
  | over (e : E) | range (as : Es) | enum (as : Es) | zip (as : Es) | zips (as : Es)
end
mutual
inductive S where
  | asg (i : Nat) (e : E)
  | asgT (is : List Nat) (e : E)
  | par (is : List Nat) (es : Es)
  | setix (i : Nat) (ix : E) (e : E)
  | app (i : Nat) (e : E)
  | ins (i : Nat) (ix : E) (e : E)
  | spoil (i : Nat) (path : List Int) (e : E)
  | exp (e : E)
  | ite (c : E) (a b : Ss)
  | whl (c : E) (b : Ss)
  | for_ (tg : Tg) (it : It) (b : Ss)
  | ret (e : E)
  | retv (i : Nat)
  | pass | brk | cnt | never
inductive Ss where
  | nil | cons (s : S) (ss : Ss)
end

/-- a def: how many parameters and slots, whether its first parameter is turned in place, the level of what it hands back, whether that is never an object -/
structure FD where
  np : Nat
  ns : Nat
  io : Bool := false
  lv : Nat := 0
  scal : Bool := false
  body : Ss

abbrev DEnv := List (Option D)
/-- a call, by the def's number and its arguments: what it hands back, what its turned parameter holds behind it -/
abbrev Callee := Nat → List D → R (D × Option D)

section
variable (G : Nat → R D) (c : Callee) (wf : Nat)

def Tg.set : Tg → D → DEnv → R DEnv
  | .one i, d, ρ => .ok (ρ.set i (some d))
  | .tup is, .tup ds, ρ => if is.length = ds.length then .ok ((is.zip ds).foldl (fun r p => r.set p.1 (some p.2)) ρ) else .bad
  | .tup _, _, _ => .bad

def getV (ρ : DEnv) (i : Nat) : R D := match ρ[i]? with | some (some d) => .ok d | _ => .bad

def itemsOf : D → R (List D)
  | .list xs => .ok xs
  | .tup xs => .ok xs
  | .str s => if s.length ≤ SZ then .ok (s.cps.toList.map fun c => .str ⟨#[c]⟩) else .bad
  | _ => .bad
def rng (i j : Int) : List D := (List.range (j - i).toNat).map fun (k : Nat) => .int (i + (k : Int))
/-- every t-th down -/
def rngS (i j k : Int) : List D := (List.range ((j - i + k - 1) / k).toNat).map fun (n : Nat) => .int (i + k * (n : Int))
def inR (i : Int) : Bool := decide (-(2 ^ 62) ≤ i) && decide (i < 2 ^ 62)
def rangeOf : List D → R (List D)
  | [.int j] => if inR j then .ok (rng 0 j) else .bad
  | [.int i, .int j] => if inR i && inR j then .ok (rng i j) else .bad
  | _ => .bad
def enumOf : List D → R (List D)
  | [.list xs] => .ok (xs.zipIdx.map fun p => .tup [.int p.2, p.1])
  | _ => .bad
def zipOf : List D → R (List D)
  | [.list xs, .list ys] => .ok ((xs.zip ys).map fun p => .tup [p.1, p.2])
  | [.tup xs, .tup ys] => .ok ((xs.zip ys).map fun p => .tup [p.1, p.2])
  | _ => .bad

/-- .. of one length -/
def zipsOf : List D → R (List D)
  | [.list xs, .list ys] => if xs.length = ys.length then .ok ((xs.zip ys).map fun p => .tup [p.1, p.2]) else .bad
  | _ => .bad

/-- the loop of a comprehension -/
def compLoop (set : D → DEnv → R DEnv) (test : DEnv → R (Bool × DEnv)) (elt : DEnv → R (D × DEnv)) : List D → DEnv → R (List D × DEnv)
  | [], ρ => .ok ([], ρ)
  | d :: ds, ρ => (set d ρ).bind fun ρ1 => (test ρ1).bind fun (b, ρ2) =>
    if b then (elt ρ2).bind fun (x, ρ3) => (compLoop set test elt ds ρ3).bind fun (xs, ρ4) => .ok (x :: xs, ρ4)
    else compLoop set test elt ds ρ2
/-- the block's own slots as they were -/
def restore (own : List Nat) (ρ0 ρ : DEnv) : DEnv := own.foldl (fun r i => r.set i (ρ0.getD i none)) ρ
def wipeE (own : List Nat) (ρ : DEnv) : DEnv := own.foldl (fun r i => r.set i none) ρ

mutual
def ev : E → DEnv → R (D × DEnv)
  | .cst d, ρ => .ok (d, ρ)
  | .var i, ρ => (getV ρ i).bind fun d => .ok (d, ρ)
  | .glo g, ρ => (G g).bind fun d => .ok (d, ρ)
  | .prim p as, ρ => (evOps as ρ).bind fun (ds, ρ1) => (prim p ds).bind fun d => .ok (d, ρ1)
  | .bop b as, ρ => evB b as ρ
  | .ife t a b, ρ => (ev t ρ).bind fun (d, ρ1) => (truth d).bind fun k => if k then ev a ρ1 else ev b ρ1
  | .lst as, ρ => (evs as ρ).bind fun (ds, ρ1) => .ok (.list ds, ρ1)
  | .tup as, ρ => (evs as ρ).bind fun (ds, ρ1) => .ok (.tup ds, ρ1)
  | .dct, ρ => .ok (.dict [] [], ρ)
  | .chain o1 o2 a b c, ρ => (ev a ρ).bind fun (x, ρ1) => (ev b ρ1).bind fun (y, ρ2) => (prim o1 [x, y]).bind fun r => match r with
    | .bool true => (ev c ρ2).bind fun (z, ρ3) => (prim o2 [y, z]).bind fun r => .ok (r, ρ3)
    | .bool false => .ok (.bool false, ρ2)
    | _ => .bad
  | .call f as, ρ => (evOps as ρ).bind fun (ds, ρ1) => (c f ds).bind fun r => match r with
    | (d, none) => .ok (d, ρ1)
    | _ => .bad
  | .callio f i as, ρ => (getV ρ i).bind fun _ => (evOps as ρ).bind fun (ds, ρ1) => (getV ρ1 i).bind fun g => if isTy .list g then (noex (c f (g :: ds))).bind fun r => (match r with
    | (d, some g') => .ok (d, ρ1.set i (some g'))
    | _ => .bad) else .bad
  | .callq f i j, ρ => (getV ρ i).bind fun l => (prim .idx [l, .int j]).bind fun d => (noex (c f [d])).bind fun r => match r with
    | (d, none) => .ok (d, ρ)
    | _ => .bad
  | .callz f as, ρ => (noex (evOps as ρ)).bind fun (ds, _) => (noex (c f ds)).bind fun r => match r with
    | (d, none) => if scalar d then .ok (d, ρ) else .bad
    | _ => .bad
  | .comp elt own tg it ifs, ρ => (evIt it ρ).bind fun (ds, ρ1) =>
    if ds.length ≤ SZ then (noex (compLoop (fun d r => tg.set d (wipeE own r)) (fun r => evIfs ifs r) (fun r => ev elt r) ds ρ1)).bind fun (xs, ρ2) => .ok (.list xs, restore own ρ1 ρ2) else .bad
/-- each as a value -/
def evs : Es → DEnv → R (List D × DEnv)
  | .nil, ρ => .ok ([], ρ)
  | .cons e es, ρ => (ev e ρ).bind fun (d, ρ1) => (evs es ρ1).bind fun (ds, ρ2) => .ok (d :: ds, ρ2)
/-- operands: a name is read when all are there -/
def evOps : Es → DEnv → R (List D × DEnv)
  | .nil, ρ => .ok ([], ρ)
  | .cons (.var i) es, ρ => (getV ρ i).bind fun _ => (evOps es ρ).bind fun (ds, ρ2) => (getV ρ2 i).bind fun d => .ok (d :: ds, ρ2)
  | .cons e es, ρ => (ev e ρ).bind fun (d, ρ1) => (evOps es ρ1).bind fun (ds, ρ2) => .ok (d :: ds, ρ2)
def evB (b : Bool) : Es → DEnv → R (D × DEnv)
  | .nil, _ => .bad
  | .cons e .nil, ρ => ev e ρ
  | .cons e es, ρ => (ev e ρ).bind fun (d, ρ1) => (truth d).bind fun k => if k = b then evB b es ρ1 else .ok (d, ρ1)
def evIfs : Es → DEnv → R (Bool × DEnv)
  | .nil, ρ => .ok (true, ρ)
  | .cons e es, ρ => (ev e ρ).bind fun (d, ρ1) => (truth d).bind fun k => if k then evIfs es ρ1 else .ok (false, ρ1)
def evIt : It → DEnv → R (List D × DEnv)
  | .over e, ρ => (ev e ρ).bind fun (d, ρ1) => (itemsOf d).bind fun xs => .ok (xs, ρ1)
  | .range as, ρ => (evOps as ρ).bind fun (ds, ρ1) => (rangeOf ds).bind fun xs => .ok (xs, ρ1)
  | .enum as, ρ => (evs as ρ).bind fun (ds, ρ1) => (enumOf ds).bind fun xs => .ok (xs, ρ1)
  | .zip as, ρ => (evs as ρ).bind fun (ds, ρ1) => (zipOf ds).bind fun xs => .ok (xs, ρ1)
  | .zips as, ρ => (evs as ρ).bind fun (ds, ρ1) => (zipsOf ds).bind fun xs => .ok (xs, ρ1)
end

/-- how a statement ends -/
inductive Out where
  | nx (ρ : DEnv) | rt (d : D) (ρ : DEnv) | bk (ρ : DEnv) | ct (ρ : DEnv) | ex (c : Nat) (v : D) | bad
def R.out {α : Type} : R α → (α → Out) → Out
  | .ok a, f => f a
  | .ex c v, _ => .ex c v
  | .bad, _ => .bad
@[simp] theorem R.out_ok {α : Type} (a : α) (f : α → Out) : (R.ok a).out f = f a := rfl
@[simp] theorem R.out_ex {α : Type} (c : Nat) (v : D) (f : α → Out) : (R.ex c v : R α).out f = .ex c v := rfl
@[simp] theorem R.out_bad {α : Type} (f : α → Out) : (R.bad : R α).out f = .bad := rfl

def forLoop (set : D → DEnv → R DEnv) (body : DEnv → Out) : List D → DEnv → Out
  | [], ρ => .nx ρ
  | d :: ds, ρ => (set d ρ).out fun ρ1 => match body ρ1 with
    | .nx ρ2 => forLoop set body ds ρ2
    | .ct ρ2 => forLoop set body ds ρ2
    | .bk ρ2 => .nx ρ2
    | o => o
def whileLoop (test : DEnv → R (D × DEnv)) (body : DEnv → Out) : Nat → DEnv → Out
  | 0, _ => .bad
  | n + 1, ρ => (test ρ).out fun (d, ρ1) => (truth d).out fun k => if k then
    (match body ρ1 with
    | .nx ρ2 => whileLoop test body n ρ2
    | .ct ρ2 => whileLoop test body n ρ2
    | .bk ρ2 => .nx ρ2
    | o => o) else .nx ρ1
def setIx : D → D → D → R D
  | .list xs, .int i, v => (match (if 0 ≤ i then (if i < xs.length then some i.toNat else none) else if -(xs.length : Int) ≤ i then some (i + xs.length).toNat else none : Option Nat) with
    | some k => .ok (.list (xs.set k v))
    | none => .bad)
  | _, _, _ => .bad
def appD : D → D → R D
  | .list xs, v => if xs.length < SZ then .ok (.list (xs ++ [v])) else .bad
  | _, _ => .bad
def insD : D → D → D → R D
  | .list xs, .int i, v => if decide (0 ≤ i ∧ i < 2 ^ 63) && decide (xs.length < SZ) then .ok (.list (xs.take i.toNat ++ [v] ++ xs.drop i.toNat)) else .bad
  | _, _, _ => .bad
/-- the lists on the way stand there -/
def pathOk : D → List Int → Bool
  | .list xs, [] => decide (xs.length < SZ)
  | .list xs, i :: p => match at? xs i with | some d => pathOk d p | none => false
  | .tup xs, i :: p => match at? xs i with | some d => pathOk d p | none => false
  | _, _ => false

mutual
def run : S → DEnv → Out
  | .asg i e, ρ => (ev G c e ρ).out fun (d, ρ1) => .nx (ρ1.set i (some d))
  | .asgT is e, ρ => (ev G c e ρ).out fun (d, ρ1) => ((Tg.tup is).set d ρ1).out fun ρ2 => .nx ρ2
  | .par is es, ρ => (evs G c es ρ).out fun (ds, ρ1) => .nx ((is.zip ds).foldl (fun r p => r.set p.1 (some p.2)) ρ1)
  | .setix i ix e, ρ => (ev G c e ρ).out fun (v, ρ1) => (getV ρ1 i).out fun _ => (ev G c ix ρ1).out fun (j, ρ2) => (getV ρ2 i).out fun l => (setIx l j v).out fun l' => .nx (ρ2.set i (some l'))
  | .app i e, ρ => (getV ρ i).out fun l0 => if !isTy .list l0 then .bad else (ev G c e ρ).out fun (v, ρ1) => (getV ρ1 i).out fun l => (appD l v).out fun l' => .nx (ρ1.set i (some l'))
  | .ins i ix e, ρ => (getV ρ i).out fun l0 => if !isTy .list l0 then .bad else (ev G c ix ρ).out fun (j, ρ1) => (ev G c e ρ1).out fun (v, ρ2) => (getV ρ2 i).out fun l => (insD l j v).out fun l' => .nx (ρ2.set i (some l'))
  | .spoil i p _, ρ => (getV ρ i).out fun l => if pathOk l p then .nx (ρ.set i none) else .bad
  | .exp e, ρ => (ev G c e ρ).out fun (_, ρ1) => .nx ρ1
  | .ite t a b, ρ => (ev G c t ρ).out fun (d, ρ1) => (truth d).out fun k => if k then runs a ρ1 else runs b ρ1
  | .whl t b, ρ => whileLoop (ev G c t) (fun r => runs b r) wf ρ
  | .for_ tg it b, ρ => (evIt G c it ρ).out fun (ds, ρ1) => forLoop tg.set (fun r => runs b r) ds ρ1
  | .ret e, ρ => (ev G c e ρ).out fun (d, ρ1) => .rt d ρ1
  | .retv i, ρ => (getV ρ i).out fun d => .rt d (ρ.set i none)
  | .pass, ρ => .nx ρ
  | .brk, ρ => .bk ρ
  | .cnt, ρ => .ct ρ
  | .never, _ => .bad
def runs : Ss → DEnv → Out
  | .nil, ρ => .nx ρ
  | .cons s ss, ρ => match run s ρ with
    | .nx ρ1 => runs ss ρ1
    | o => o
end
end

/-- the body of a def, from its arguments -/
def runF (G : Nat → R D) (c : Callee) (wf : Nat) (fd : FD) (ds : List D) : R (D × Option D) :=
  if ds.length = fd.np then
    match runs G c wf fd.body (ds.map some ++ List.replicate (fd.ns - ds.length) none) with
    | .rt d ρ => if fd.scal && !scalar d then .bad else if fd.io then (match ρ[0]? with | some (some g) => .ok (d, some g) | _ => .bad) else .ok (d, none)
    | .nx ρ => if fd.io then (match ρ[0]? with | some (some g) => .ok (.non, some g) | _ => .bad) else .ok (.non, none)
    | .ex k v => if fd.io then .bad else .ex k v
    | _ => .bad
  else .bad

/-- calls, n deep -/
def callD (P : Nat → Option FD) (G : Nat → R D) (wf : Nat) : Nat → Callee
  | 0 => fun _ _ => .bad
  | n + 1 => fun f ds => match P f with
    | some fd => runF G (callD P G wf n) wf fd ds
    | none => .bad
end Fh
end
section
set_option maxRecDepth 100000
set_option maxHeartbeats 1000000
/-! What stands for what: values and the abstract heap against data; who owns which object. -/
namespace Fh
open PySem L2

/-- what the text's top has laid: the written part, the defs and the classes by number -/
structure Tb where
  K : PySem.W.Frag
  fa : Nat → Option Addr
  ca : Nat → Option Addr

def keyD : Key → D
  | .inl i => .int i
  | .inr s => .str s

/-- the list at a: tracked, locked, or one that the top has laid -/
def LL (K : PySem.W.Frag) (F : Hp) (a : Addr) (vs : List V) : Prop :=
  Rd F a (.lst vs) ∨ ∃ (its : Array Value) (n : Nat), K.lookup a = some { cls := .type "list", data := .seq its n } ∧ its.size ≤ sizeLine ∧ Vals vs its.toList
theorem LL.sq {K : PySem.W.Frag} {F : Hp} {a : Addr} {vs : List V} : LL K F a vs → SqL K F a vs
  | .inl h => .inl h
  | .inr ⟨its, n, h1, h2, h3⟩ => .inr ⟨_, its, n, h1, rfl, rfl, rfl, h2, h3⟩

mutual
/-- v stands for d by what is frozen -/
inductive RD (T : Tb) (F : Hp) : V → D → Prop
  | non : RD T F .non .non
  | bool (b : Bool) : RD T F (.bl b) (.bool b)
  | int (i : Int) : RD T F (.int i) (.int i)
  | str (s : Str) : RD T F (.str s) (.str s)
  | list {a vs ds} : LL T.K F a vs → RDs T F vs ds → RD T F (.ref a) (.list ds)
  | tup {a vs ds} : SqT T.K F a vs → RDs T F vs ds → RD T F (.ref a) (.tup ds)
  | dict {a kvs ds} : F a = some (.dK kvs) → RDs T F (kvs.map (·.2)) ds → RD T F (.ref a) (.dict (kvs.map fun p => keyD p.1) ds)
  | fn {f a} : T.fa f = some a → RD T F (.ref a) (.fn f)
  | cls {f a} : T.ca f = some a → RD T F (.ref a) (.cls f)
inductive RDs (T : Tb) (F : Hp) : List V → List D → Prop
  | nil : RDs T F [] []
  | cons {v vs d ds} : RD T F v d → RDs T F vs ds → RDs T F (v :: vs) (d :: ds)
end

mutual
/-- .. the upper k floors of it owned: the objects at fp, in no other hand -/
inductive RO (T : Tb) (F H : Hp) : Nat → V → D → List Addr → Prop
  | frz {v d} : RD T F v d → RO T F H 0 v d []
  | sc {k v d} : scalar d = true → RD T F v d → RO T F H k v d []
  | tupF {v ds} : RD T F v (.tup ds) → RO T F H 1 v (.tup ds) []
  | list {k a vs ds fp} : H a = some (.lst vs) → F a = none → ROs T F H k vs ds fp → RO T F H (k + 1) (.ref a) (.list ds) (a :: fp)
  | tup {k a vs ds fp} : H a = some (.tup vs) → F a = none → ROs T F H k vs ds fp → RO T F H (k + 1) (.ref a) (.tup ds) (a :: fp)
  | dict {k a kvs ds fp} : H a = some (.dK kvs) → F a = none → ROs T F H k (kvs.map (·.2)) ds fp → RO T F H (k + 1) (.ref a) (.dict (kvs.map fun p => keyD p.1) ds) (a :: fp)
inductive ROs (T : Tb) (F H : Hp) : Nat → List V → List D → List Addr → Prop
  | nil {k} : ROs T F H k [] [] []
  | cons {k v vs d ds fp fq} : RO T F H k v d fp → ROs T F H k vs ds fq → ROs T F H k (v :: vs) (d :: ds) (fp ++ fq)
end

/-- more stands -/
def Le (F F' : Hp) : Prop := ∀ a o, F a = some o → F' a = some o
theorem Le.refl (F : Hp) : Le F F := fun _ _ h => h
theorem Le.trans {F G H : Hp} (h : Le F G) (k : Le G H) : Le F H := fun a o e => k a o (h a o e)
theorem Rd.le {F F' : Hp} (h : Le F F') {a : Addr} {u : HO} : Rd F a u → Rd F' a u
  | .inl e => .inl (h _ _ e)
  | .inr ⟨o, e⟩ => .inr ⟨o, h _ _ e⟩
theorem SqL.le {K : PySem.W.Frag} {F F' : Hp} (h : Le F F') {a : Addr} {vs : List V} : SqL K F a vs → SqL K F' a vs
  | .inl e => .inl (Rd.le h e)
  | .inr e => .inr e
theorem LL.le {K : PySem.W.Frag} {F F' : Hp} (h : Le F F') {a : Addr} {vs : List V} : LL K F a vs → LL K F' a vs
  | .inl e => .inl (Rd.le h e)
  | .inr e => .inr e
theorem SqT.le {K : PySem.W.Frag} {F F' : Hp} (h : Le F F') {a : Addr} {vs : List V} : SqT K F a vs → SqT K F' a vs
  | .inl e => .inl (Rd.le h e)
  | .inr e => .inr e

section
variable {T : Tb} {F F' H H' : Hp}
mutual
theorem RD.le (h : Le F F') : ∀ {v : V} {d : D}, RD T F v d → RD T F' v d
  | _, _, .non => .non
  | _, _, .bool b => .bool b
  | _, _, .int i => .int i
  | _, _, .str s => .str s
  | _, _, .list e r => .list (LL.le h e) (RDs.le h r)
  | _, _, .tup e r => .tup (SqT.le h e) (RDs.le h r)
  | _, _, .dict e r => .dict (h _ _ e) (RDs.le h r)
  | _, _, .fn e => .fn e
  | _, _, .cls e => .cls e
theorem RDs.le (h : Le F F') : ∀ {vs : List V} {ds : List D}, RDs T F vs ds → RDs T F' vs ds
  | _, _, .nil => .nil
  | _, _, .cons r s => .cons (RD.le h r) (RDs.le h s)
end
theorem RDs.length : ∀ {vs : List V} {ds : List D}, RDs T F vs ds → vs.length = ds.length
  | _, _, .nil => rfl
  | _, _, .cons _ s => by simp [RDs.length s]
theorem RDs.get : ∀ {vs : List V} {ds : List D} {i : Nat} {d : D}, RDs T F vs ds → ds[i]? = some d → ∃ v, vs[i]? = some v ∧ RD T F v d
  | _, _, _, _, .nil, e => by simp at e
  | _, _, 0, _, .cons r _, e => by simp at e; subst e; exact ⟨_, rfl, r⟩
  | _, _, i + 1, _, .cons _ s, e => by
    obtain ⟨v, h1, h2⟩ := RDs.get (i := i) s (by simpa using e)
    exact ⟨v, by simpa using h1, h2⟩
theorem RDs.getV : ∀ {vs : List V} {ds : List D} {i : Nat} {v : V}, RDs T F vs ds → vs[i]? = some v → ∃ d, ds[i]? = some d ∧ RD T F v d
  | _, _, _, _, .nil, e => by simp at e
  | _, _, 0, _, .cons r _, e => by simp at e; subst e; exact ⟨_, rfl, r⟩
  | _, _, i + 1, _, .cons _ s, e => by
    obtain ⟨v, h1, h2⟩ := RDs.getV (i := i) s (by simpa using e)
    exact ⟨v, by simpa using h1, h2⟩
theorem RDs.append : ∀ {vs ws : List V} {ds es : List D}, RDs T F vs ds → RDs T F ws es → RDs T F (vs ++ ws) (ds ++ es)
  | _, _, _, _, .nil, s => s
  | _, _, _, _, .cons r t, s => .cons r (RDs.append t s)
theorem RDs.take : ∀ {vs : List V} {ds : List D} (n : Nat), RDs T F vs ds → RDs T F (vs.take n) (ds.take n)
  | _, _, 0, _ => by simpa using RDs.nil
  | _, _, _ + 1, .nil => by simpa using RDs.nil
  | _, _, n + 1, .cons r t => .cons r (RDs.take n t)
theorem RDs.drop : ∀ {vs : List V} {ds : List D} (n : Nat), RDs T F vs ds → RDs T F (vs.drop n) (ds.drop n)
  | _, _, 0, r => r
  | _, _, _ + 1, .nil => by simpa using RDs.nil
  | _, _, n + 1, .cons _ t => RDs.drop n t
theorem RDs.reverse : ∀ {vs : List V} {ds : List D}, RDs T F vs ds → RDs T F vs.reverse ds.reverse
  | _, _, .nil => .nil
  | _, _, .cons r t => by simp only [List.reverse_cons]; exact RDs.append (RDs.reverse t) (.cons r .nil)
theorem RDs.set {v : V} {d : D} (r : RD T F v d) : ∀ {vs : List V} {ds : List D} (i : Nat), RDs T F vs ds → RDs T F (vs.set i v) (ds.set i d)
  | _, _, _, .nil => .nil
  | _, _, 0, .cons _ t => .cons r t
  | _, _, i + 1, .cons q t => .cons q (RDs.set r i t)

/-- all of it frozen -/
theorem RO.toRD (h : Le F F') : ∀ {k : Nat} {v : V} {d : D} {fp : List Addr}, RO T F H k v d fp → (∀ a ∈ fp, F' a = H a) → RD T F' v d := by
  intro k v d fp r
  refine RO.rec (motive_1 := fun k v d fp _ => (∀ a ∈ fp, F' a = H a) → RD T F' v d) (motive_2 := fun k vs ds fp _ => (∀ a ∈ fp, F' a = H a) → RDs T F' vs ds) ?_ ?_ ?_ ?_ ?_ ?_ ?_ ?_ r
  · intro v d r _; exact r.le h
  · intro k v d _ r _; exact r.le h
  · intro v ds r _; exact r.le h
  · intro k a vs ds fp e _ _ ih q
    exact .list (.inl (.inl ((q a List.mem_cons_self).trans e))) (ih fun b hb => q b (List.mem_cons_of_mem _ hb))
  · intro k a vs ds fp e _ _ ih q
    exact .tup (.inl (.inl ((q a List.mem_cons_self).trans e))) (ih fun b hb => q b (List.mem_cons_of_mem _ hb))
  · intro k a kvs ds fp e _ _ ih q
    exact .dict ((q a List.mem_cons_self).trans e) (ih fun b hb => q b (List.mem_cons_of_mem _ hb))
  · intro k _; exact .nil
  · intro k v vs d ds fp fq _ _ ih1 ih2 q
    exact .cons (ih1 fun b hb => q b (List.mem_append_left _ hb)) (ih2 fun b hb => q b (List.mem_append_right _ hb))
theorem ROs.toRDs (h : Le F F') : ∀ {k : Nat} {vs : List V} {ds : List D} {fp : List Addr}, ROs T F H k vs ds fp → (∀ a ∈ fp, F' a = H a) → RDs T F' vs ds
  | _, _, _, _, .nil, _ => .nil
  | _, _, _, _, .cons r s, q => .cons (RO.toRD h r fun b hb => q b (List.mem_append_left _ hb)) (ROs.toRDs h s fun b hb => q b (List.mem_append_right _ hb))
/-- read at the heap itself -/
theorem RO.here (h : Le F H) {k : Nat} {v : V} {d : D} {fp : List Addr} (r : RO T F H k v d fp) : RD T H v d := r.toRD h fun _ _ => rfl

/-- it stays while its objects stay -/
theorem RO.stab (h : Le F F') : ∀ {k : Nat} {v : V} {d : D} {fp : List Addr}, RO T F H k v d fp → (∀ a ∈ fp, H' a = H a ∧ F' a = none) → RO T F' H' k v d fp := by
  intro k v d fp r
  refine RO.rec (motive_1 := fun k v d fp _ => (∀ a ∈ fp, H' a = H a ∧ F' a = none) → RO T F' H' k v d fp) (motive_2 := fun k vs ds fp _ => (∀ a ∈ fp, H' a = H a ∧ F' a = none) → ROs T F' H' k vs ds fp) ?_ ?_ ?_ ?_ ?_ ?_ ?_ ?_ r
  · intro v d r _; exact .frz (r.le h)
  · intro k v d e r _; exact .sc e (r.le h)
  · intro v ds r _; exact .tupF (r.le h)
  · intro k a vs ds fp e _ _ ih q
    have qa := q a List.mem_cons_self
    exact .list (qa.1.trans e) qa.2 (ih fun b hb => q b (List.mem_cons_of_mem _ hb))
  · intro k a vs ds fp e _ _ ih q
    have qa := q a List.mem_cons_self
    exact .tup (qa.1.trans e) qa.2 (ih fun b hb => q b (List.mem_cons_of_mem _ hb))
  · intro k a kvs ds fp e _ _ ih q
    have qa := q a List.mem_cons_self
    exact .dict (qa.1.trans e) qa.2 (ih fun b hb => q b (List.mem_cons_of_mem _ hb))
  · intro k _; exact .nil
  · intro k v vs d ds fp fq _ _ ih1 ih2 q
    exact .cons (ih1 fun b hb => q b (List.mem_append_left _ hb)) (ih2 fun b hb => q b (List.mem_append_right _ hb))
theorem ROs.stab (h : Le F F') : ∀ {k : Nat} {vs : List V} {ds : List D} {fp : List Addr}, ROs T F H k vs ds fp → (∀ a ∈ fp, H' a = H a ∧ F' a = none) → ROs T F' H' k vs ds fp
  | _, _, _, _, .nil, _ => .nil
  | _, _, _, _, .cons r s, q => .cons (RO.stab h r fun b hb => q b (List.mem_append_left _ hb)) (ROs.stab h s fun b hb => q b (List.mem_append_right _ hb))

/-- fewer floors owned: fp1 of fp stay owned, the others are to be frozen -/
theorem RO.weak : ∀ {k : Nat} {v : V} {d : D} {fp : List Addr}, RO T F H k v d fp → ∀ j, j ≤ k → fp.Nodup →
    ∃ fp1, fp1.Sublist fp ∧ ∀ F', Le F F' → (∀ a ∈ fp, a ∉ fp1 → F' a = H a) → (∀ a ∈ fp1, F' a = none) → RO T F' H j v d fp1 := by
  intro k v d fp r
  refine RO.rec (motive_1 := fun k v d fp _ => ∀ j, j ≤ k → fp.Nodup → ∃ fp1, fp1.Sublist fp ∧ ∀ F', Le F F' → (∀ a ∈ fp, a ∉ fp1 → F' a = H a) → (∀ a ∈ fp1, F' a = none) → RO T F' H j v d fp1)
    (motive_2 := fun k vs ds fp _ => ∀ j, j ≤ k → fp.Nodup → ∃ fp1, fp1.Sublist fp ∧ ∀ F', Le F F' → (∀ a ∈ fp, a ∉ fp1 → F' a = H a) → (∀ a ∈ fp1, F' a = none) → ROs T F' H j vs ds fp1) ?_ ?_ ?_ ?_ ?_ ?_ ?_ ?_ r
  · intro v d r j hj _
    obtain rfl : j = 0 := by omega
    exact ⟨[], List.nil_sublist _, fun F' h _ _ => .frz (r.le h)⟩
  · intro k v d e r j _ _
    exact ⟨[], List.nil_sublist _, fun F' h _ _ => .sc e (r.le h)⟩
  · intro v ds r j hj _
    refine ⟨[], List.nil_sublist _, fun F' h _ _ => ?_⟩
    rcases (show j = 0 ∨ j = 1 by omega) with rfl | rfl
    · exact .frz (r.le h)
    · exact .tupF (r.le h)
  · intro k a vs ds fp e _ hr ih j hj nd
    cases j with
    | zero => exact ⟨[], List.nil_sublist _, fun F' h q _ => .frz (RO.toRD h (.list e (by assumption) hr) fun b hb => q b hb (by simp))⟩
    | succ j =>
      obtain ⟨fp1, s, w⟩ := ih j (by omega) (List.nodup_cons.mp nd).2
      refine ⟨a :: fp1, s.cons_cons a, fun F' h q n => .list e (n a List.mem_cons_self) (w F' h (fun b hb hn => q b (List.mem_cons_of_mem _ hb) ?_) fun b hb => n b (List.mem_cons_of_mem _ hb))⟩
      intro z
      rcases List.mem_cons.mp z with rfl | z
      · exact (List.nodup_cons.mp nd).1 hb
      · exact hn z
  · intro k a vs ds fp e _ hr ih j hj nd
    cases j with
    | zero => exact ⟨[], List.nil_sublist _, fun F' h q _ => .frz (RO.toRD h (.tup e (by assumption) hr) fun b hb => q b hb (by simp))⟩
    | succ j =>
      obtain ⟨fp1, s, w⟩ := ih j (by omega) (List.nodup_cons.mp nd).2
      refine ⟨a :: fp1, s.cons_cons a, fun F' h q n => .tup e (n a List.mem_cons_self) (w F' h (fun b hb hn => q b (List.mem_cons_of_mem _ hb) ?_) fun b hb => n b (List.mem_cons_of_mem _ hb))⟩
      intro z
      rcases List.mem_cons.mp z with rfl | z
      · exact (List.nodup_cons.mp nd).1 hb
      · exact hn z
  · intro k a kvs ds fp e _ hr ih j hj nd
    cases j with
    | zero => exact ⟨[], List.nil_sublist _, fun F' h q _ => .frz (RO.toRD h (.dict e (by assumption) hr) fun b hb => q b hb (by simp))⟩
    | succ j =>
      obtain ⟨fp1, s, w⟩ := ih j (by omega) (List.nodup_cons.mp nd).2
      refine ⟨a :: fp1, s.cons_cons a, fun F' h q n => .dict e (n a List.mem_cons_self) (w F' h (fun b hb hn => q b (List.mem_cons_of_mem _ hb) ?_) fun b hb => n b (List.mem_cons_of_mem _ hb))⟩
      intro z
      rcases List.mem_cons.mp z with rfl | z
      · exact (List.nodup_cons.mp nd).1 hb
      · exact hn z
  · intro k j _ _
    exact ⟨[], List.nil_sublist _, fun F' h _ _ => .nil⟩
  · intro k v vs d ds fp fq _ _ ih1 ih2 j hj nd
    obtain ⟨n1, n2, n3⟩ := List.nodup_append.mp nd
    obtain ⟨p1, s1, w1⟩ := ih1 j hj n1
    obtain ⟨p2, s2, w2⟩ := ih2 j hj n2
    refine ⟨p1 ++ p2, s1.append s2, fun F' h q n => .cons (w1 F' h (fun b hb hn => q b (List.mem_append_left _ hb) ?_) fun b hb => n b (List.mem_append_left _ hb)) (w2 F' h (fun b hb hn => q b (List.mem_append_right _ hb) ?_) fun b hb => n b (List.mem_append_right _ hb))⟩
    · intro z
      rcases List.mem_append.mp z with z | z
      · exact hn z
      · exact n3 _ hb _ (s2.subset z) rfl
    · intro z
      rcases List.mem_append.mp z with z | z
      · exact n3 _ (s1.subset z) _ hb rfl
      · exact hn z
end

/-! ### the state of a def that runs -/
/-- W: what must stay; io: the turned parameter's object; F frozen, H all; the slots' values and data, their levels, the objects that they own -/
structure Rel (T : Tb) (W : Addr → Prop) (io : Option Addr) (F H : Hp) (σ : St) (ρ : DEnv) (g : List Nat) (fps : Nat → List Addr) : Prop where
  len : σ.length = ρ.length
  sub : Le F H
  slot : ∀ i d, ρ[i]? = some (some d) → ∃ v, σ[i]? = some (some v) ∧ RO T F H (g.getD i 0) v d (fps i)
  own : ∀ i a, a ∈ fps i → H a ≠ none ∧ F a = none ∧ ¬ W a
  nd : ∀ i, (fps i).Nodup
  dj : ∀ i j a, a ∈ fps i → a ∈ fps j → i = j
  held : ∀ a, W a → H a ≠ none
  iok : ∀ a, io = some a → σ[0]? = some (some (.ref a)) ∧ fps 0 = [a] ∧ g.getD 0 0 = 1 ∧ ∃ d, ρ[0]? = some (some d)

structure Pres (W : Addr → Prop) (F H F' H' : Hp) : Prop where
  f : Le F F'
  h : ∀ a, W a → H' a = H a
  n : ∀ a, W a → F a = none → F' a = none
  dom : ∀ a, H a ≠ none → H' a ≠ none
theorem Pres.refl {W : Addr → Prop} {F H : Hp} : Pres W F H F H := ⟨Le.refl _, fun _ _ => rfl, fun _ _ h => h, fun _ h => h⟩
theorem Pres.trans {W : Addr → Prop} {F H F1 H1 F2 H2 : Hp} (p : Pres W F H F1 H1) (q : Pres W F1 H1 F2 H2) : Pres W F H F2 H2 :=
  ⟨p.f.trans q.f, fun a w => (q.h a w).trans (p.h a w), fun a w n => q.n a w (p.n a w n), fun a n => q.dom a (p.dom a n)⟩
theorem Pres.mono {W W' : Addr → Prop} {F H F1 H1 : Hp} (p : Pres W F H F1 H1) (h : ∀ a, W' a → W a) : Pres W' F H F1 H1 :=
  ⟨p.f, fun a w => p.h a (h a w), fun a w n => p.n a (h a w) n, p.dom⟩

/-- objects of nobody else -/
structure New (W : Addr → Prop) (F H : Hp) (fps : Nat → List Addr) (fp : List Addr) : Prop where
  nd : fp.Nodup
  ok : ∀ a ∈ fp, ¬ W a ∧ (∀ i, a ∉ fps i) ∧ H a ≠ none ∧ F a = none
theorem New.nil {W : Addr → Prop} {F H : Hp} {fps : Nat → List Addr} : New W F H fps [] := ⟨List.nodup_nil, fun a h => by simp at h⟩

/-- F with what H has at X -/
def addF (F H : Hp) (X : List Addr) : Hp := fun a => if a ∈ X then H a else F a
theorem addF_le {F H : Hp} {X : List Addr} (h : Le F H) : Le F (addF F H X) := fun a o e => by
  unfold addF; split
  · exact h a o e
  · exact e
theorem addF_sub {F H : Hp} {X : List Addr} (h : Le F H) : Le (addF F H X) H := fun a o e => by
  unfold addF at e; split at e
  · exact e
  · exact h a o e
theorem addF_in {F H : Hp} {X : List Addr} {a : Addr} (h : a ∈ X) : addF F H X a = H a := by unfold addF; rw [if_pos h]
theorem addF_out {F H : Hp} {X : List Addr} {a : Addr} (h : a ∉ X) : addF F H X a = F a := by unfold addF; rw [if_neg h]

section
variable {T : Tb} {W W' : Addr → Prop} {io : Option Addr} {F F' H H' : Hp} {σ : St} {ρ : DEnv} {g : List Nat} {fps : Nat → List Addr} {fp : List Addr}
theorem Rel.monoW (r : Rel T W io F H σ ρ g fps) (h : ∀ a, W' a → W a) : Rel T W' io F H σ ρ g fps :=
  ⟨r.len, r.sub, r.slot, fun i a m => ⟨(r.own i a m).1, (r.own i a m).2.1, fun w => (r.own i a m).2.2 (h a w)⟩, r.nd, r.dj, fun a w => r.held a (h a w), r.iok⟩
/-- what is new is held while more is done -/
def addW (W : Addr → Prop) (fp : List Addr) : Addr → Prop := fun a => W a ∨ a ∈ fp
theorem Rel.hold (r : Rel T W io F H σ ρ g fps) (n : New W F H fps fp) : Rel T (addW W fp) io F H σ ρ g fps :=
  ⟨r.len, r.sub, r.slot, fun i a m => ⟨(r.own i a m).1, (r.own i a m).2.1, fun w => w.elim (r.own i a m).2.2 fun z => (n.ok a z).2.1 i m⟩, r.nd, r.dj, fun a w => w.elim (r.held a) fun z => (n.ok a z).2.2.1, r.iok⟩
/-- more objects laid, none of them ours -/
theorem Rel.ext (r : Rel T W io F H σ ρ g fps) (h : Le H H') : Rel T W io F H' σ ρ g fps := by
  have hd : ∀ a, H a ≠ none → H' a = H a := fun a n => by
    cases e : H a with
    | none => exact absurd e n
    | some o => exact h a o e
  refine ⟨r.len, r.sub.trans h, fun i d e => ?_, fun i a m => ?_, r.nd, r.dj, fun a w => ?_, r.iok⟩
  · obtain ⟨v, e1, e2⟩ := r.slot i d e
    exact ⟨v, e1, e2.stab (Le.refl _) fun a m => ⟨hd a (r.own i a m).1, (r.own i a m).2.1⟩⟩
  · obtain ⟨h1, h2, h3⟩ := r.own i a m
    exact ⟨by rw [hd a h1]; exact h1, h2, h3⟩
  · rw [hd a (r.held a w)]; exact r.held a w
theorem Pres.ext (p : Pres W F H F' H') {H2 : Hp} (h : Le H' H2) (hw : ∀ a, W a → H a ≠ none) : Pres W F H F' H2 := by
  have hd : ∀ a, H' a ≠ none → H2 a = H' a := fun a n => by
    cases e : H' a with
    | none => exact absurd e n
    | some o => exact h a o e
  refine ⟨p.f, fun a w => ?_, p.n, fun a n => ?_⟩
  · have := p.dom a (hw a w)
    rw [hd a this, p.h a w]
  · have := p.dom a n
    rw [hd a this]; exact this
/-- objects of no slot frozen -/
theorem Rel.frz (r : Rel T W io F H σ ρ g fps) {X : List Addr} (hX : ∀ a ∈ X, (∀ i, a ∉ fps i)) : Rel T W io (addF F H X) H σ ρ g fps := by
  refine ⟨r.len, addF_sub r.sub, fun i d e => ?_, fun i a m => ?_, r.nd, r.dj, r.held, r.iok⟩
  · obtain ⟨v, e1, e2⟩ := r.slot i d e
    exact ⟨v, e1, e2.stab (addF_le r.sub) fun a m => ⟨rfl, by rw [addF_out fun z => hX a z i m]; exact (r.own i a m).2.1⟩⟩
  · obtain ⟨h1, h2, h3⟩ := r.own i a m
    exact ⟨h1, by rw [addF_out fun z => hX a z i m]; exact h2, h3⟩
theorem Pres.frz {X : List Addr} (h : Le F H) (hX : ∀ a ∈ X, ¬ W a) : Pres W F H (addF F H X) H :=
  ⟨addF_le h, fun _ _ => rfl, fun a w n => by rw [addF_out fun z => hX a z w]; exact n, fun _ h => h⟩

/-- fewer floors of what is new -/
theorem Rel.weakNew (r : Rel T W io F H σ ρ g fps) (n : New W F H fps fp) {k j : Nat} {v : V} {d : D} (o : RO T F H k v d fp) (h : j ≤ k) :
    ∃ F' fp', Rel T W io F' H σ ρ g fps ∧ Pres W F H F' H ∧ New W F' H fps fp' ∧ RO T F' H j v d fp' := by
  obtain ⟨fp1, s, w⟩ := o.weak j h n.nd
  refine ⟨addF F H (fp.filter fun a => decide (a ∉ fp1)), fp1, r.frz fun a m => ?_, Pres.frz r.sub fun a m => ?_, ⟨n.nd.sublist s, fun a m => ?_⟩, w _ (addF_le r.sub) (fun a m q => ?_) fun a m => ?_⟩
  · exact (n.ok a (List.mem_filter.mp m).1).2.1
  · exact (n.ok a (List.mem_filter.mp m).1).1
  · obtain ⟨h1, h2, h3, h4⟩ := n.ok a (s.subset m)
    refine ⟨h1, h2, h3, ?_⟩
    rw [addF_out fun z => ?_]
    · exact h4
    · have := (List.mem_filter.mp z).2
      simp [m] at this
  · exact addF_in (List.mem_filter.mpr ⟨m, by simpa using q⟩)
  · rw [addF_out fun z => ?_]
    · exact (n.ok a (s.subset m)).2.2.2
    · have := (List.mem_filter.mp z).2
      simp [m] at this

/-- the slot i's footprint exchanged -/
def setF (fps : Nat → List Addr) (i : Nat) (fp : List Addr) : Nat → List Addr := fun j => if j = i then fp else fps j
theorem setF_same {i : Nat} : setF fps i fp i = fp := by unfold setF; rw [if_pos rfl]
theorem setF_ne {i j : Nat} (h : j ≠ i) : setF fps i fp j = fps j := by unfold setF; rw [if_neg h]

theorem getD_set {i j k : Nat} (g : List Nat) (hi : i < g.length) : (g.set i k).getD j 0 = if j = i then k else g.getD j 0 := by
  simp only [List.getD_eq_getElem?_getD]
  by_cases h : j = i
  · subst h; simp [hi]
  · rw [if_neg h, List.getElem?_set_ne (Ne.symm h)]

/-- fewer floors of a slot (not the turned parameter's) -/
theorem Rel.weakSlot (r : Rel T W io F H σ ρ g fps) {i j : Nat} (hi : i < g.length) (hj : j ≤ g.getD i 0) (hio : io = none ∨ i ≠ 0 ∨ j = g.getD i 0) :
    ∃ F' fp', Rel T W io F' H σ ρ (g.set i j) (setF fps i fp') ∧ Pres W F H F' H ∧ (∀ a ∈ fp', a ∈ fps i) := by
  by_cases hjg : j = g.getD i 0
  · refine ⟨F, fps i, ?_, Pres.refl, fun _ h => h⟩
    have e1 : setF fps i (fps i) = fps := by funext k; unfold setF; split <;> simp_all
    have e2 : ∀ k, (g.set i j).getD k 0 = g.getD k 0 := fun k => by
      rw [getD_set g hi]; split
      · subst_vars; rfl
      · rfl
    rw [e1]
    exact ⟨r.len, r.sub, fun k d e => by rw [e2]; exact r.slot k d e, r.own, r.nd, r.dj, r.held, fun a e => by rw [e2]; exact r.iok a e⟩
  have hio : io = none ∨ i ≠ 0 := by
    rcases hio with h | h | h
    · exact .inl h
    · exact .inr h
    · exact absurd h hjg
  cases hρ : ρ[i]? with
  | none =>
    refine ⟨F, [], ⟨r.len, r.sub, fun k d e => ?_, fun k a m => ?_, fun k => ?_, fun k l a m1 m2 => ?_, r.held, fun a e => ?_⟩, Pres.refl, fun a h => by simp at h⟩
    · by_cases hk : k = i
      · subst hk; rw [hρ] at e; cases e
      · rw [getD_set g hi, if_neg hk, setF_ne hk]; exact r.slot k d e
    · by_cases hk : k = i
      · subst hk; rw [setF_same] at m; simp at m
      · rw [setF_ne hk] at m; exact r.own k a m
    · by_cases hk : k = i
      · subst hk; rw [setF_same]; exact List.nodup_nil
      · rw [setF_ne hk]; exact r.nd k
    · by_cases hk : k = i
      · subst hk; rw [setF_same] at m1; simp at m1
      · by_cases hl : l = i
        · subst hl; rw [setF_same] at m2; simp at m2
        · rw [setF_ne hk] at m1; rw [setF_ne hl] at m2; exact r.dj k l a m1 m2
    · rcases hio with h | h
      · rw [h] at e; cases e
      · rw [setF_ne (Ne.symm h), getD_set g hi, if_neg (Ne.symm h)]; exact r.iok a e
  | some o =>
    cases o with
    | none =>
      refine ⟨F, [], ⟨r.len, r.sub, fun k d e => ?_, fun k a m => ?_, fun k => ?_, fun k l a m1 m2 => ?_, r.held, fun a e => ?_⟩, Pres.refl, fun a h => by simp at h⟩
      · by_cases hk : k = i
        · subst hk; rw [hρ] at e; cases e
        · rw [getD_set g hi, if_neg hk, setF_ne hk]; exact r.slot k d e
      · by_cases hk : k = i
        · subst hk; rw [setF_same] at m; simp at m
        · rw [setF_ne hk] at m; exact r.own k a m
      · by_cases hk : k = i
        · subst hk; rw [setF_same]; exact List.nodup_nil
        · rw [setF_ne hk]; exact r.nd k
      · by_cases hk : k = i
        · subst hk; rw [setF_same] at m1; simp at m1
        · by_cases hl : l = i
          · subst hl; rw [setF_same] at m2; simp at m2
          · rw [setF_ne hk] at m1; rw [setF_ne hl] at m2; exact r.dj k l a m1 m2
      · rcases hio with h | h
        · rw [h] at e; cases e
        · rw [setF_ne (Ne.symm h), getD_set g hi, if_neg (Ne.symm h)]; exact r.iok a e
    | some d =>
      obtain ⟨v, e1, o⟩ := r.slot i d hρ
      obtain ⟨fp1, s, w⟩ := o.weak j hj (r.nd i)
      have hX : ∀ a, a ∈ (fps i).filter (fun a => decide (a ∉ fp1)) → a ∈ fps i ∧ a ∉ fp1 := fun a m => by
        obtain ⟨m1, m2⟩ := List.mem_filter.mp m
        exact ⟨m1, by simpa using m2⟩
      have out : ∀ k a, k ≠ i → a ∈ fps k → a ∉ (fps i).filter (fun a => decide (a ∉ fp1)) := fun k a hk m z => hk (r.dj k i a m (hX a z).1)
      have out1 : ∀ a, a ∈ fp1 → a ∉ (fps i).filter (fun a => decide (a ∉ fp1)) := fun a m z => (hX a z).2 m
      refine ⟨addF F H ((fps i).filter fun a => decide (a ∉ fp1)), fp1, ⟨r.len, addF_sub r.sub, fun k d' e => ?_, fun k a m => ?_, fun k => ?_, fun k l a m1 m2 => ?_, r.held, fun a e => ?_⟩, Pres.frz r.sub fun a m => (r.own i a (hX a m).1).2.2, fun a m => s.subset m⟩
      · by_cases hk : k = i
        · subst hk
          rw [hρ] at e; cases e
          rw [getD_set g hi, if_pos rfl, setF_same]
          refine ⟨v, e1, w _ (addF_le r.sub) (fun a m q => addF_in (List.mem_filter.mpr ⟨m, by simpa using q⟩)) fun a m => ?_⟩
          rw [addF_out (out1 a m)]
          exact (r.own k a (s.subset m)).2.1
        · rw [getD_set g hi, if_neg hk, setF_ne hk]
          obtain ⟨v', e1', o'⟩ := r.slot k d' e
          exact ⟨v', e1', o'.stab (addF_le r.sub) fun a m => ⟨rfl, by rw [addF_out (out k a hk m)]; exact (r.own k a m).2.1⟩⟩
      · by_cases hk : k = i
        · subst hk
          rw [setF_same] at m
          obtain ⟨h1, h2, h3⟩ := r.own k a (s.subset m)
          exact ⟨h1, by rw [addF_out (out1 a m)]; exact h2, h3⟩
        · rw [setF_ne hk] at m
          obtain ⟨h1, h2, h3⟩ := r.own k a m
          exact ⟨h1, by rw [addF_out (out k a hk m)]; exact h2, h3⟩
      · by_cases hk : k = i
        · subst hk; rw [setF_same]; exact (r.nd k).sublist s
        · rw [setF_ne hk]; exact r.nd k
      · by_cases hk : k = i
        · subst hk
          rw [setF_same] at m1
          by_cases hl : l = k
          · exact hl.symm
          · rw [setF_ne hl] at m2; exact r.dj k l a (s.subset m1) m2
        · rw [setF_ne hk] at m1
          by_cases hl : l = i
          · subst hl; rw [setF_same] at m2; exact r.dj k l a m1 (s.subset m2)
          · rw [setF_ne hl] at m2; exact r.dj k l a m1 m2
      · rcases hio with h | h
        · rw [h] at e; cases e
        · rw [setF_ne (Ne.symm h), getD_set g hi, if_neg (Ne.symm h)]; exact r.iok a e
end
end Fh
end
section
set_option maxRecDepth 100000
set_option maxHeartbeats 1000000
/-! The checker: the small language against the row's own syntax, levels counted. -/
namespace Fh
open PySem L2

/-- what is known of the text: its defs (name, def, the keywords' names that calls of it use), its constants' names -/
structure Info where
  fn : Nat → Option (Str × FD)
  kw : Nat → List (List Str)
  gl : Nat → Option Str

def looksK (sc : Scope) (x : Str) (k : NameKind) : Bool := sc.names.lookup x == some k
def visB (sc : Scope) (x : Str) : Bool := looksK sc x .local || looksK sc x .cell || looksK sc x .free
def glB (sc : Scope) (x : Str) : Bool := looksK sc x .globalImplicit && !(x == ("__debug__" : Str)) && !(x == ("__name__" : Str))
/-- a name that an own slot has -/
def nameOk (x : Str) : Bool := !(x == ("__debug__" : Str)) && !(x == ("__classdict__" : Str))

def binP : Prim → Operator → Bool
  | .add, .Add | .sub, .Sub | .mul, .Mult | .fdiv, .FloorDiv | .mod, .Mod | .pow, .Pow => true
  | _, _ => false
def cmpP : Prim → CmpOp → Bool
  | .lt, .Lt | .le, .LtE | .gt, .Gt | .ge, .GtE | .eq, .Eq | .ne, .NotEq | .isin, .In | .notin, .NotIn | .isq, .Is | .isnot, .IsNot => true
  | _, _ => false
def unP : Prim → UnaryOp → Bool
  | .neg, .USub | .not, .Not => true
  | _, _ => false
/-- a built-in's name and how many arguments -/
def Prim.bn : Prim → Option (Str × Nat)
  | .len => some ("len", 1) | .abs => some ("abs", 1) | .max1 => some ("max", 1) | .max2 => some ("max", 2) | .min1 => some ("min", 1) | .min2 => some ("min", 2)
  | .sum1 => some ("sum", 1) | .sum2 => some ("sum", 2) | .sorted => some ("sorted", 1) | .all => some ("all", 1) | .any => some ("any", 1)
  | .listof => some ("list", 1) | .tupof => some ("tuple", 1) | .intof => some ("int", 1) | .repr => some ("repr", 1)
  | _ => none
def Ty.nm : Ty → Str
  | .int => "int" | .bool => "bool" | .str => "str" | .list => "list" | .tup => "tuple" | .dict => "dict"
def noStar : Expr → Bool
  | .Starred _ _ => false
  | _ => true
def noSet : Expr → Bool
  | .Set _ _ _ => false
  | _ => true
def noSlice : Expr → Bool
  | .Slice _ _ _ _ => false
  | _ => true
/-- not a bare call (of super) -/
def noBare : Expr → Bool
  | .Call (.Name _ _) [] [] _ => false
  | _ => true
def isNm (sc : Scope) (x : Str) : Expr → Bool
  | .Name y _ => decide (y = x) && glB sc x
  | _ => false

/-- the operands of a built-in's use -/
def opsOf (sc : Scope) (p : Prim) : Expr → Option (List Expr)
  | .BinOp a op b _ => if binP p op then some [a, b] else none
  | .Compare a [op] [b] _ => if cmpP p op && noSet b then some [a, b] else none
  | .UnaryOp op a _ => if unP p op then some [a] else none
  | .Subscript a (.Slice lo hi none _) _ => match p, lo, hi with
    | .slN, none, none => some [a]
    | .slL, some l, none => some [a, l]
    | .slH, none, some h => some [a, h]
    | .slA, some l, some h => some [a, l, h]
    | _, _, _ => none
  | .Subscript a (.Slice none none (some (.UnaryOp .USub (.Constant (.int 1) _ _) _)) _) _ => match p with
    | .slR => some [a]
    | _ => none
  | .Subscript a (.Slice lo none (some (.Constant (.int j) _ _)) _) _ => match p, lo with
    | .slP k, none => if decide (j = (k : Int)) then some [a] else none
    | .slP k, some l => if decide (j = (k : Int)) then some [a, l] else none
    | _, _ => none
  | .Subscript a i _ => match p with
    | .idx => if noSlice i then some [a, i] else none
    | _ => none
  | .Call (.Name x _) args [] _ => match p, args with
    | .isinst t, [a, y] => if decide (x = ("isinstance" : Str)) && glB sc x && isNm sc t.nm y then some [a] else none
    | .isinst2 t u, [a, .Tuple [y, z] _ _] => if decide (x = ("isinstance" : Str)) && glB sc x && isNm sc t.nm y && isNm sc u.nm z then some [a] else none
    | .nuniq, [.Call (.Name y _) [a] [] _] => if decide (x = ("len" : Str)) && glB sc x && decide (y = ("set" : Str)) && glB sc y && noStar a then some [a] else none
    | p, args => match p.bn with
      | some (y, n) => if decide (x = y) && glB sc x && decide (args.length = n) then some args else none
      | none => none
  | .Call (.Attribute o m apos) args [] cpos => match p, args with
    | .joinS z, [a] => (match o with
      | .Constant (.str y) _ _ => if decide (m = ("join" : Str)) && decide (y = z) && noStar a && (apos.endLine == cpos.line) then some [a] else none
      | _ => none)
    | .bitlen, [] => if decide (m = ("bit_length" : Str)) && noBare o && (apos.endLine == cpos.line) then some [o] else none
    | _, _ => none
  | _ => none

def constP : D → Const → Bool
  | .non, .none => true
  | .bool a, .bool b => a == b
  | .int i, .int j => i == j
  | .str s, .str t => decide (s = t)
  | _, _ => false

abbrev Lv := List Nat
/-- the names of a block that are its own, by slot -/
def ownNames (N : List Str) (own : List Nat) : List (Str × Nat) := own.map fun i => (N.getD i Str.empty, i)

def chkTg (N : List Str) : Tg → Expr → Bool
  | .one i, .Name x _ => decide (N[i]? = some x)
  | .tup is, .Tuple es _ _ => decide (is.length = es.length) && (is.zip es).all fun p => match p.2 with
    | .Name x _ => decide (N[p.1]? = some x)
    | _ => false
  | _, _ => false
def Tg.slots : Tg → List Nat
  | .one i => [i]
  | .tup is => is
def zeroL (g : Lv) (own : List Nat) : Lv := own.foldl (fun r i => r.set i 0) g
def backL (g g0 : Lv) (own : List Nat) : Lv := own.foldl (fun r i => r.set i (g0.getD i 0)) g
def minL (g h : Lv) : Lv := g.zipWith min h
def leL (g h : Lv) : Bool := decide (g.length = h.length) && (g.zip h).all fun p => decide (p.1 ≤ p.2)

/-- how a call is written: the arguments and the keywords in the parameters' order -/
def callArgs (I : Info) (sc : Scope) (f : Nat) : Expr → Option (FD × List Expr)
  | .Call (.Name x _) args kws _ => match I.fn f with
    | some (y, fd) => if decide (x = y) && glB sc x && (kws.all fun k => k.arg.isSome) && decide (kws.filterMap (·.arg) ∈ I.kw f) && decide ((args ++ kws.map (·.value)).length = fd.np) then some (fd, args ++ kws.map (·.value)) else none
    | none => none
  | _ => none

def hasPos : Expr → Bool
  | .Call _ (_ :: _) _ _ => true
  | _ => false
/-- the names among operands frozen -/
def frzOps : Es → Lv → Lv
  | .nil, g => g
  | .cons (.var i) es, g => (frzOps es g).set i 0
  | .cons _ es, g => frzOps es g
/-- .. left with one floor at most -/
def lowOps : Es → Lv → Lv
  | .nil, g => g
  | .cons (.var i) es, g => (lowOps es g).set i (min 1 ((lowOps es g).getD i 0))
  | .cons _ es, g => lowOps es g
def outL (p : Prim) (as : Es) (g : Lv) : Lv := if p.lv = 9 then g else lowOps as g
/-- the slot is none of the operands -/
def notIn (i : Nat) : Es → Bool
  | .nil => true
  | .cons (.var j) es => decide (j ≠ i) && notIn i es
  | .cons _ es => notIn i es

def Es.len : Es → Nat
  | .nil => 0
  | .cons _ es => es.len + 1
/-- whether the operator is and (b) or or -/
def opIs (b : Bool) : BoolOp → Bool
  | .And => b
  | .Or => !b
section
variable (I : Info) (N : List Str)

/-- a name read as a value: frozen from there on -/
def slotOk (sc : Scope) (g : Lv) (i : Nat) (x : Str) : Bool := decide (N[i]? = some x) && visB sc x && nameOk x && decide (i < g.length)

mutual
def chkE (io : Bool) (sc : Scope) : E → Expr → Lv → Option (Nat × Lv)
  | .cst d, ex, g => match ex with
    | .Constant c _ _ => if constP d c then some (9, g) else none
    | _ => none
  | .var i, ex, g => match ex with
    | .Name x _ => if slotOk N sc g i x && !(io && decide (i = 0)) then some (0, g.set i 0) else none
    | _ => none
  | .glo k, ex, g => match ex with
    | .Name x _ => if decide (I.gl k = some x) && glB sc x then some (0, g) else none
    | _ => none
  | .prim p as, ex, g => match opsOf sc p ex with
    | some exs => (chkOps io sc as exs g).bind fun g1 => some (p.lv, outL p as g1)
    | none => none
  | .bop b as, ex, g => match ex with
    | .BoolOp op exs _ => if opIs b op then chkB io sc as exs g else none
    | _ => none
  | .ife t a b, ex, g => match ex with
    | .IfExp et ea eb _ => (chkE io sc t et g).bind fun (_, g1) => (chkE io sc a ea g1).bind fun (la, g2) => (chkE io sc b eb g2).bind fun (lb, g3) => some (min la lb, g3)
    | _ => none
  | .lst as, ex, g => match ex with
    | .List exs _ => if 4096 < as.len then none else (chkEs io sc as exs g).bind fun (l, g1) => some (min 9 (l + 1), g1)
    | _ => none
  | .tup as, ex, g => match ex with
    | .Tuple exs _ _ => if 4096 < as.len then none else (chkEs io sc as exs g).bind fun (l, g1) => some (min 9 (l + 1), g1)
    | _ => none
  | .dct, ex, g => match ex with
    | .Dict [] [] _ => some (9, g)
    | _ => none
  | .chain o1 o2 a b c, ex, g => match ex with
    | .Compare ea [p1, p2] [eb, ec] _ => if cmpP o1 p1 && cmpP o2 p2 && noSet eb && noSet ec then (chkE io sc a ea g).bind fun (_, g1) => (chkE io sc b eb g1).bind fun (_, g2) => (chkE io sc c ec g2).bind fun (_, g3) => some (9, g3) else none
    | _ => none
  | .call f as, ex, g => match callArgs I sc f ex with
    | some (fd, exs) => if fd.io then none else
      if fd.scal then (chkOps io sc as exs g).bind fun g1 => some (9, g1) else if io && !(notIn 0 as) then none else (chkOps io sc as exs g).bind fun g1 => some (fd.lv, frzOps as g1)
    | none => none
  | .callio f i as, ex, g => match callArgs I sc f ex with
    | some (fd, .Name x _ :: exs) => if fd.io && slotOk N sc g i x && decide (1 ≤ g.getD i 0) && notIn i as && !(io && !(notIn 0 as)) && hasPos ex then
      (chkOps io sc as exs (g.set i 1)).bind fun g1 => if 1 ≤ g1.getD i 0 then some (if fd.scal then 9 else fd.lv, frzOps as g1) else none else none
    | _ => none
  | .callq f i j, ex, g => match callArgs I sc f ex with
    | some (fd, [.Subscript (.Name y _) (.Constant (.int n) _ _) _]) => if !fd.io && fd.scal && slotOk N sc g i y && decide (n = j) && hasPos ex then some (9, g) else none
    | _ => none
  | .callz f as, ex, g => match callArgs I sc f ex with
    | some (fd, exs) => if !fd.io && fd.scal then (chkOps false sc as exs (List.replicate g.length 0)).bind fun _ => some (9, g) else none
    | none => none
  | .comp elt own tg it ifs, ex, g => match ex with
    | .ListComp eelt [⟨etg, eit, eifs, 0⟩] scope _ =>
      if blkC N sc scope (ownNames N own) && chkTg N tg etg && decide (tg.slots = own) && decide (own.Nodup) && (own.all fun i => decide (i < g.length) && !(io && decide (i = 0)) && (match N[i]? with | some x => looksK scope x .local || looksK scope x .cell | none => false)) then
        (chkIt io sc it eit (match etg with | .Tuple _ _ _ => true | _ => false) g).bind fun g1 =>
        let sc2 := relS scope sc
        let turn := fun (h : Lv) => (chkIfs io sc2 ifs eifs h).bind fun h1 => chkE io sc2 elt eelt h1
        let nx := fun (h : Lv) => (turn h).bind fun (_, h1) => some (minL h h1)
        (nx (zeroL g1 own)).bind fun h1 => (nx h1).bind fun h2 => (nx h2).bind fun h3 => (turn h3).bind fun (l, h4) => if leL h3 h4 then some (min 9 (l + 1), backL h3 g1 own) else none
      else none
    | _ => none
def chkEs (io : Bool) (sc : Scope) : Es → List Expr → Lv → Option (Nat × Lv)
  | .nil, [], g => some (9, g)
  | .cons e es, ex :: exs, g => if noStar ex then (chkE io sc e ex g).bind fun (l, g1) => (chkEs io sc es exs g1).bind fun (m, g2) => some (min l m, g2) else none
  | _, _, _ => none
def chkOps (io : Bool) (sc : Scope) : Es → List Expr → Lv → Option Lv
  | .nil, [], g => some g
  | .cons (.var i) es, ex :: exs, g => match ex with
    | .Name x _ => if slotOk N sc g i x then (chkOps io sc es exs g).bind fun g2 => if decide (i < g2.length) then some g2 else none else none
    | _ => none
  | .cons e es, ex :: exs, g => if noStar ex then (chkE io sc e ex g).bind fun (_, g1) => chkOps io sc es exs g1 else none
  | _, _, _ => none
def chkB (io : Bool) (sc : Scope) : Es → List Expr → Lv → Option (Nat × Lv)
  | .cons e .nil, [ex], g => chkE io sc e ex g
  | .cons e es, ex :: ex2 :: exs, g => (chkE io sc e ex g).bind fun (l, g1) => (chkB io sc es (ex2 :: exs) g1).bind fun (m, g2) => some (min l m, g2)
  | _, _, _ => none
def chkIfs (io : Bool) (sc : Scope) : Es → List Expr → Lv → Option Lv
  | .nil, [], g => some g
  | .cons e .nil, [ex], g => (chkE io sc e ex g).bind fun (_, g1) => some g1
  | _, _, _ => none
def chkIt (io : Bool) (sc : Scope) : It → Expr → Bool → Lv → Option Lv
  | .over e, ex, _, g => if noSet ex && noStar ex then (chkE io sc e ex g).bind fun (_, g1) => some g1 else none
  | .range as, ex, _, g => match ex with
    | .Call (.Name x _) args [] _ => if decide (x = ("range" : Str)) && glB sc x && decide (args.length = 1 ∨ args.length = 2) then chkOps io sc as args g else none
    | _ => none
  | .enum as, ex, two, g => match ex with
    | .Call (.Name x _) args [] _ => if two && decide (x = ("enumerate" : Str)) && glB sc x && decide (args.length = 1) then (chkEs io sc as args g).bind fun (_, g1) => some g1 else none
    | _ => none
  | .zip as, ex, two, g => match ex with
    | .Call (.Name x _) args [] _ => if two && decide (x = ("zip" : Str)) && glB sc x && decide (args.length = 2) then (chkEs io sc as args g).bind fun (_, g1) => some g1 else none
    | _ => none
  | .zips as, ex, two, g => match ex with
    | .Call (.Name x _) args [⟨some y, .Constant (.bool true) _ _, _⟩] _ => if two && decide (x = ("zip" : Str)) && glB sc x && decide (args.length = 2) && decide (y = ("strict" : Str)) then (chkEs io sc as args g).bind fun (_, g1) => some g1 else none
    | _ => none
end
end
end Fh
end
section
set_option maxRecDepth 100000
set_option maxHeartbeats 1000000
/-! Defs and calls: the layer's promise, with what repr wants besides (nothing of repr is running). -/
namespace Fh
open PySem PySem.Spec PyProof.Rows L2

/-- the binds, in some order -/
def BindsP (s : Shared) (fd : FuncData) (args : Args) (l : List (Str × Value)) : Prop := ∃ l', BindsTo s fd args l' ∧ l'.Perm l
theorem upd_swap {a b : Str} (h : a ≠ b) (x y : Value) (m : Str → Option Value) : (fun z => if z = b then some y else if z = a then some x else m z) = fun z => if z = a then some x else if z = b then some y else m z := by
  funext z
  by_cases h1 : z = a
  · subst h1; simp [h]
  · simp [h1]
theorem bindL_perm {kd : Str → Option NameKind} {l l' : List (Str × Value)} (p : l.Perm l') : (l.map (·.1)).Nodup → ∀ m, bindL kd l m = bindL kd l' m := by
  induction p with
  | nil => intro _ m; rfl
  | cons x _ ih =>
    intro h m
    obtain ⟨n, v⟩ := x
    exact ih (by simp only [List.map_cons, List.nodup_cons] at h; exact h.2) _
  | swap x y l =>
    intro h m
    obtain ⟨n, v⟩ := x
    obtain ⟨n', v'⟩ := y
    have ne : n' ≠ n := by
      simp only [List.map_cons, List.nodup_cons, List.mem_cons, not_or] at h
      exact h.1.1
    simp only [bindL]
    congr 1
    by_cases h1 : kd n = some .local <;> by_cases h2 : kd n' = some .local <;> simp only [h1, h2, if_true, if_false] <;> first | rfl | exact upd_swap ne _ _ _
  | trans p q ih1 ih2 =>
    intro h m
    exact (ih1 h m).trans (ih2 ((p.map _).nodup_iff.mp h) m)
theorem bindC_perm {kd : Str → Option NameKind} {l l' : List (Str × Value)} (p : l.Perm l') : (l.map (·.1)).Nodup → ∀ m, bindC kd l m = bindC kd l' m := by
  induction p with
  | nil => intro _ m; rfl
  | cons x _ ih =>
    intro h m
    obtain ⟨n, v⟩ := x
    exact ih (by simp only [List.map_cons, List.nodup_cons] at h; exact h.2) _
  | swap x y l =>
    intro h m
    obtain ⟨n, v⟩ := x
    obtain ⟨n', v'⟩ := y
    have ne : n' ≠ n := by
      simp only [List.map_cons, List.nodup_cons, List.mem_cons, not_or] at h
      exact h.1.1
    simp only [bindC]
    congr 1
    by_cases h1 : kd n = some .local <;> by_cases h2 : kd n' = some .local <;> simp only [h1, h2, if_true, if_false] <;> first | rfl | exact upd_swap ne _ _ _
  | trans p q ih1 ih2 =>
    intro h m
    exact (ih1 h m).trans (ih2 ((p.map _).nodup_iff.mp h) m)
/-- the layer's FnOk where no guard runs -/
structure FnG (P : Program) (w : World) (K : PySem.W.Frag) (mg : Str → Option Value) (base : Heap) (k : Nat) (f : Addr) (fd : FuncData) (ps : List Str) (sp : Sp) : Prop where
  len : ∀ vs H Q E, sp vs H Q E → vs.length = ps.length
  run : ∀ (A : Around) (outer : List Env) (s : Shared) (H : Hp) (args : Args) (us : List Value) (vs : List V) (Q : VK) (E : XK),
    A.guards = some [] → Room k A → Env0 P w K mg base A outer s H → BindsP s fd args (ps.zip us) → Vals vs us → sp vs H Q E →
    codeAny (model P w) A (.call (.ref f) args) (CR (L2.CX P w) outer P w H s Q E) s

theorem FnG.mono {P : Program} {w : World} {K : PySem.W.Frag} {mg : Str → Option Value} {base : Heap} {j k : Nat} {f : Addr} {fd : FuncData} {ps : List Str} {sp : Sp}
    (F : FnG P w K mg base j f fd ps sp) (h : j ≤ k) : FnG P w K mg base k f fd ps sp :=
  ⟨F.len, fun A outer s H args us vs Q E hg hr => F.run A outer s H args us vs Q E hg (hr.mono h)⟩

section
variable {X : Cx} {k : Nat} {f : Addr} {fd : FuncData} {ps ks : List Str} {sp : Sp} {Wx : WX}
/-- the callee runs, keywords or none: us, ws in the parameters' order -/
theorem runG {pins : List (Addr × Obj)} {σ : L2.St} {H : Hp} {s : Shared} {Q : VK} {us ws : List Value} {vs zs : List V}
    (F : FnG X.prog X.w X.K X.mg X.base k f fd ps sp) (hg : X.A.guards = some []) (hr : Room k X.A)
    (hb : ∀ (s : Shared) (us ws : List Value), (us ++ ws).length = ps.length → ws.length = ks.length → BindsP s fd ⟨us, ks.zip ws⟩ (ps.zip (us ++ ws)))
    (tk : Takes X Wx) (I : Inv X pins σ H s) (r : Vals vs us) (rz : Vals zs ws) (hk : ws.length = ks.length) (h : sp (vs ++ zs) H Q fun c d H' => Wx c d σ H') :
    wpAny (model X.prog X.w) X.A (PySem.call (.ref f) us (ks.zip ws)) (EP X pins σ Q) X.xe s := by
  have r2 : Vals (vs ++ zs) (us ++ ws) := r.append rz
  have hl : (us ++ ws).length = ps.length := by
    rw [← r2.length]
    exact F.len _ _ _ _ h
  have go := F.run X.A X.stack s H ⟨us, ks.zip ws⟩ (us ++ ws) (vs ++ zs) Q _ hg hr I.env0 (hb s us ws hl hk) r2 h
  refine wpAny_call (codeAny_mono go ?_)
  intro res s' hq
  match res, hq with
  | .error e, hq => exact tk e s' (XE.of_call I (fun _ _ _ z => z) hq)
  | .ok (.ret u), hq => exact I.after hq
  | .ok .next, hq => exact False.elim hq
  | .ok .brk, hq => exact False.elim hq
  | .ok .cont, hq => exact False.elim hq
end

end Fh
end
section
set_option maxRecDepth 100000
set_option maxHeartbeats 2000000
/-! Levels that fall, of a whole state. -/
namespace Fh
open PySem PySem.Spec PyProof.Rows L2

structure LeC (io : Bool) (g' g : Lv) : Prop where
  len : g'.length = g.length
  le : ∀ i, g'.getD i 0 ≤ g.getD i 0
  io : io = true → 1 ≤ g.getD 0 0 → 1 ≤ g'.getD 0 0
theorem LeC.refl {io : Bool} (g : Lv) : LeC io g g := ⟨rfl, fun _ => Nat.le_refl _, fun _ h => h⟩
theorem LeC.trans {io : Bool} {a b c : Lv} (h : LeC io a b) (k : LeC io b c) : LeC io a c := ⟨h.len.trans k.len, fun i => Nat.le_trans (h.le i) (k.le i), fun e z => h.io e (k.io e z)⟩
theorem getD_set' {g : Lv} {i j v : Nat} : (g.set i v).getD j 0 = if j = i ∧ i < g.length then v else g.getD j 0 := by
  by_cases h : i < g.length
  · rw [getD_set g h]
    split <;> simp_all
  · rw [if_neg (fun z => h z.2)]
    simp only [List.getD_eq_getElem?_getD]
    by_cases e : j = i
    · subst e
      rw [List.getElem?_eq_none (by simp; omega), List.getElem?_eq_none (by omega)]
    · rw [List.getElem?_set_ne (Ne.symm e)]
theorem LeC.set {io : Bool} {g : Lv} {i v : Nat} (h : v ≤ g.getD i 0) (hi : io = true → i = 0 → 1 ≤ g.getD 0 0 → 1 ≤ v) : LeC io (g.set i v) g := by
  refine ⟨by simp, fun j => ?_, fun e z => ?_⟩
  · rw [getD_set']
    split
    · rename_i q; rw [q.1]; exact h
    · exact Nat.le_refl _
  · rw [getD_set']
    split
    · rename_i q; exact hi e q.1.symm z
    · exact z

noncomputable def addP (F H : Hp) (X : Addr → Prop) : Hp := fun a => open Classical in if X a then H a else F a
theorem addP_le {F H : Hp} {X : Addr → Prop} (h : Le F H) : Le F (addP F H X) := fun a o e => by
  unfold addP; split
  · exact h a o e
  · exact e
theorem addP_sub {F H : Hp} {X : Addr → Prop} (h : Le F H) : Le (addP F H X) H := fun a o e => by
  unfold addP at e; split at e
  · exact e
  · exact h a o e
theorem addP_in {F H : Hp} {X : Addr → Prop} {a : Addr} (h : X a) : addP F H X a = H a := by unfold addP; rw [if_pos h]
theorem addP_out {F H : Hp} {X : Addr → Prop} {a : Addr} (h : ¬ X a) : addP F H X a = F a := by unfold addP; rw [if_neg h]

section
variable {T : Tb} {W : Addr → Prop} {ia : Option Addr} {io : Bool} {F H : Hp} {σ : L2.St} {ρ : DEnv} {g g' : Lv} {fps : Nat → List Addr}
theorem Rel.weakAll (r : Rel T W ia F H σ ρ g fps) (h : LeC io g' g) (hi : ia.isSome = io) : ∃ F' fps', Rel T W ia F' H σ ρ g' fps' ∧ Pres W F H F' H ∧ ∀ i a, a ∈ fps' i → a ∈ fps i := by
  have each : ∀ i, ∃ fp1 : List Addr, fp1.Sublist (fps i) ∧ (g'.getD i 0 = g.getD i 0 → fp1 = fps i) ∧ ∀ d, ρ[i]? = some (some d) → ∀ F', Le F F' → (∀ a ∈ fps i, a ∉ fp1 → F' a = H a) → (∀ a ∈ fp1, F' a = none) →
      ∃ v, σ[i]? = some (some v) ∧ RO T F' H (g'.getD i 0) v d fp1 := by
    intro i
    by_cases e : g'.getD i 0 = g.getD i 0
    · refine ⟨fps i, List.Sublist.refl _, fun _ => rfl, fun d hd F' hF _ hn => ?_⟩
      obtain ⟨v, e1, ro⟩ := r.slot i d hd
      exact ⟨v, e1, by rw [e]; exact ro.stab hF fun a m => ⟨rfl, hn a m⟩⟩
    · cases hρ : ρ[i]? with
      | none => exact ⟨fps i, List.Sublist.refl _, fun _ => rfl, fun d hd => by cases hd⟩
      | some o =>
        cases o with
        | none => exact ⟨fps i, List.Sublist.refl _, fun _ => rfl, fun d hd => by cases hd⟩
        | some d =>
          obtain ⟨v, e1, ro⟩ := r.slot i d hρ
          obtain ⟨fp1, s, w⟩ := ro.weak _ (h.le i) (r.nd i)
          exact ⟨fp1, s, fun z => absurd z e, fun d' hd F' hF h1 h2 => by cases hd; exact ⟨v, e1, w F' hF h1 h2⟩⟩
  obtain ⟨f, hf⟩ := Classical.axiomOfChoice each
  have out : ∀ i a, a ∈ f i → ¬ ∃ j, a ∈ fps j ∧ a ∉ f j := fun i a m ⟨j, h1, h2⟩ => by
    have := r.dj i j a ((hf i).1.subset m) h1
    subst this
    exact h2 m
  refine ⟨addP F H fun a => ∃ i, a ∈ fps i ∧ a ∉ f i, f, ⟨r.len, addP_sub r.sub, fun i d e => ?_, fun i a m => ?_, fun i => (r.nd i).sublist (hf i).1, fun i j a m1 m2 => r.dj i j a ((hf i).1.subset m1) ((hf j).1.subset m2), r.held, fun a e => ?_⟩, ⟨addP_le r.sub, fun _ _ => rfl, fun a w n => ?_, fun _ h => h⟩, fun i a m => (hf i).1.subset m⟩
  · exact (hf i).2.2 d e _ (addP_le r.sub) (fun a m n => addP_in ⟨i, m, n⟩) fun a m => by rw [addP_out (out i a m)]; exact (r.own i a ((hf i).1.subset m)).2.1
  · obtain ⟨h1, h2, h3⟩ := r.own i a ((hf i).1.subset m)
    exact ⟨h1, by rw [addP_out (out i a m)]; exact h2, h3⟩
  · obtain ⟨h1, h2, h3, h4⟩ := r.iok a e
    have e2 : g'.getD 0 0 = 1 := Nat.le_antisymm (by rw [← h3]; exact h.le 0) (h.io (by rw [← hi, e]; rfl) (by rw [h3]; exact Nat.le_refl _))
    exact ⟨h1, by rw [(hf 0).2.1 (e2.trans h3.symm)]; exact h2, e2, h4⟩
  · rw [addP_out fun ⟨i, h1, _⟩ => (r.own i a h1).2.2 w]; exact n
end

section
variable {T : Tb} {F H : Hp}
theorem RD.scl {F F2 : Hp} {v : V} {d : D} (h : scalar d = true) (r : RD T F v d) : RD T F2 v d := by
  cases r <;> first | (cases h; done) | skip
  · exact .non
  · exact .bool _
  · exact .int _
  · exact .str _
theorem RO.scl {k : Nat} {v : V} {d : D} {fp : List Addr} (h : scalar d = true) (r : RO T F H k v d fp) : RD T F v d := by
  cases r <;> first | assumption | (cases h; done)

def varsOf : Es → List Nat
  | .nil => []
  | .cons (.var i) es => i :: varsOf es
  | .cons _ es => varsOf es
theorem low_le {io : Bool} : ∀ {es : Es} {g : Lv}, LeC io (lowOps es g) g
  | .nil, g => LeC.refl g
  | .cons e es, g => by
    cases e with
    | var i =>
      simp only [lowOps]
      exact (LeC.set (Nat.min_le_right _ _) fun _ z1 z => by rw [z1]; omega).trans low_le
    | _ => simp only [lowOps]; exact low_le
theorem low_get : ∀ {es : Es} {g : Lv} {i : Nat}, i ∈ varsOf es → (lowOps es g).getD i 0 ≤ 1
  | .nil, g, i, h => by simp [varsOf] at h
  | .cons e es, g, i, h => by
    cases e with
    | var j =>
      simp only [lowOps]
      rw [getD_set']
      split
      · exact Nat.min_le_left _ _
      · rename_i q
        rcases List.mem_cons.mp h with z | z
        · subst z
          by_cases hl : i < (lowOps es g).length
          · exact absurd ⟨rfl, hl⟩ q
          · rw [List.getD_eq_getElem?_getD, List.getElem?_eq_none (by omega)]; exact Nat.zero_le _
        · exact low_get z
    | _ => simp only [lowOps]; exact low_get (es := es) (by simpa [varsOf] using h)
theorem out_le (io : Bool) {p : Prim} {es : Es} {g : Lv} : LeC io (outL p es g) g := by
  unfold outL
  split
  · exact LeC.refl _
  · exact low_le
end
end Fh
end
section
set_option maxRecDepth 100000
set_option maxHeartbeats 2000000
/-! The readings of the small language's expressions, as the layer's; operands. -/
namespace Fh
open PySem PySem.Spec PyProof.Rows L2

theorem PE.of {X : Cx} {e : Expr} {t t' : TE} (h : PE X e t) (m : ∀ σ H Q, t' σ H Q → t σ H Q) : PE X e t' := ⟨fun pins s σ H Q I q => h.run pins s σ H Q I (m σ H Q q)⟩
theorem PT.of {X : Cx} {e : Expr} {t t' : TT} (h : PT X e t) (m : ∀ σ H Q, t' σ H Q → t σ H Q) : PT X e t' := ⟨fun pins s σ H Q I q => h.run pins s σ H Q I (m σ H Q q)⟩
theorem PW.of {X : Cx} {e : Expr} {t t' : TT} (h : PW X e t) (m : ∀ σ H Q, t' σ H Q → t σ H Q) : PW X e t' := ⟨fun wh pins s σ H Q I q => h.run wh pins s σ H Q I (m σ H Q q)⟩
theorem PA.of {X : Cx} {e : List Expr} {t t' : TA} (h : PA X e t) (m : ∀ σ H Q, t' σ H Q → t σ H Q) : PA X e t' := ⟨fun pos pins s σ H Q I q => h.run pos pins s σ H Q I (m σ H Q q)⟩
theorem PTs.of {X : Cx} {e : List Expr} {t t' : TT} (h : PTs X e t) (m : ∀ σ H Q, t' σ H Q → t σ H Q) : PTs X e t' := ⟨fun pins s σ H Q I q => h.run pins s σ H Q I (m σ H Q q)⟩
theorem PS.of {X : Cx} {e : Stmt} {t t' : TS} (h : PS X e t) (m : ∀ D σ H, t' D σ H → t D σ H) : PS X e t' := ⟨fun pins s σ H D I q => h.run pins s σ H D I (m D σ H q)⟩
theorem PSs.of {X : Cx} {e : List Stmt} {t t' : TS} (h : PSs X e t) (m : ∀ D σ H, t' D σ H → t D σ H) : PSs X e t' := ⟨fun pins s σ H D I q => h.run pins s σ H D I (m D σ H q)⟩
theorem PI.of {X : Cx} {tg e : Expr} {t t' : TI} (h : PI X tg e t) (m : ∀ σ H R, t' σ H R → t σ H R) : PI X tg e t' := ⟨fun pins s σ H R I q => h.run pins s σ H R I (m σ H R q)⟩

/-- all that stands but the turned parameter's object -/
def Rest (H : Hp) (io : Option Addr) : Addr → Prop := fun a => H a ≠ none ∧ io ≠ some a

/-- the promise of a def by what the evaluator says of its call -/
def spF (T : Tb) (fd : FD) (cf : List D → R (D × Option D)) : Sp := fun vs H Q E =>
  vs.length = fd.np ∧ ∃ (F : Hp) (io : Option Addr) (ds : List D), Le F H ∧ io.isSome = fd.io ∧
    (match io with
      | none => RDs T F vs ds
      | some a => ∃ vs' d0 ds', vs = .ref a :: vs' ∧ ds = d0 :: ds' ∧ RO T F H 1 (.ref a) d0 [a] ∧ RDs T F vs' ds') ∧
    match cf ds with
    | .ok (d, g) => ∀ v F' H' fp, (scalar d = true ∨ fd.scal = false) → Le F' H' → Pres (Rest H io) F H F' H' → RO T F' H' fd.lv v d fp → fp.Nodup → (∀ a ∈ fp, H a = none ∧ H' a ≠ none ∧ F' a = none) →
        (match io, g with
          | none, none => True
          | some a, some g => RO T F' H' 1 (.ref a) g [a]
          | _, _ => False) → Q v H'
    | .ex c dv => io = none ∧ ∀ C dx v F' H', T.ca c = some C → Le F' H' → Pres (Rest H io) F H F' H' → H dx = none → H' dx = some (.xd [("value", v)]) → RD T F' v dv → E (.ref C) (some dx) H'
    | .bad => False

/-- the built-in names that the language uses -/
def bltNames : List Str := ["len", "abs", "max", "min", "sum", "sorted", "all", "any", "list", "tuple", "int", "bool", "str", "dict", "repr", "isinstance", "range", "enumerate", "zip", "ValueError", "set"]

/-- what a def's body, or a block within, knows -/
structure Ok (I : Info) (T : Tb) (G : Nat → R D) (c : Callee) (k : Nat) (N : List Str) (Wx : WX) (X : Cx) : Prop where
  hN : X.N = N
  hK : X.K = T.K
  calm : X.calm = true
  nd : X.N.Nodup
  gd : X.A.guards = some []
  rm : Room k X.A
  tk : Takes X Wx
  bl : ∀ x ∈ bltNames, X.mg x = none
  fn : ∀ f x fd, I.fn f = some (x, fd) → ∃ (a : Addr) (fdt : FuncData) (ps : List Str), T.fa f = some a ∧ X.mg x = some (.ref a) ∧ PySem.W.keepIn X.K (.ref a) = true ∧
    FnG X.prog X.w X.K X.mg X.base k a fdt ps (spF T fd (c f)) ∧ ps.length = fd.np ∧
    ∀ ks ∈ I.kw f, ∀ (s : Shared) (us ws : List Value), (us ++ ws).length = ps.length → ws.length = ks.length → BindsP s fdt ⟨us, ks.zip ws⟩ (ps.zip (us ++ ws))
  gl : ∀ g x, I.gl g = some x → ∃ v u d, G g = .ok d ∧ X.mg x = some u ∧ RelV v u ∧ ∀ F, RD T F v d

/-- the ends -/
def XPost (T : Tb) (W : Addr → Prop) (F H : Hp) (Wx : WX) (σ : L2.St) (c : Nat) (dv : D) : Prop :=
  ∀ C dx v F' H', T.ca c = some C → Le F' H' → Pres W F H F' H' → H dx = none → H' dx = some (.xd [("value", v)]) → RD T F' v dv → Wx (.ref C) (some dx) σ H'
theorem XPost.step {T : Tb} {W W' : Addr → Prop} {F H F1 H1 : Hp} {Wx : WX} {σ : L2.St} {c : Nat} {dv : D} (h : XPost T W F H Wx σ c dv) (p : Pres W F H F1 H1) (hw : ∀ a, W a → W' a) : XPost T W' F1 H1 Wx σ c dv :=
  fun C dx v F' H' e1 e2 e3 e4 e5 e6 => h C dx v F' H' e1 e2 (p.trans (e3.mono hw)) (by
    cases e : H dx with
    | none => rfl
    | some o => exact absurd e4 (p.dom dx (by rw [e]; simp))) e5 e6

def EPost (T : Tb) (W : Addr → Prop) (io : Option Addr) (g' : Lv) (l : Nat) (F H : Hp) (Wx : WX) (σ : L2.St) (Q : VK) : R (D × DEnv) → Prop
  | .ok (d, ρ') => ∀ v F' H' fps' fp, Rel T W io F' H' σ ρ' g' fps' → Pres W F H F' H' → RO T F' H' l v d fp → New W F' H' fps' fp → Q v H'
  | .ex c dv => XPost T W F H Wx σ c dv
  | .bad => False

section
variable (T : Tb) (G : Nat → R D) (c : Callee) (io : Bool) (Wx : WX)

def tI (e : E) (g g' : Lv) (l : Nat) : TE := fun σ H Q => ∃ W ia F ρ fps, ia.isSome = io ∧ Rel T W ia F H σ ρ g fps ∧ EPost T W ia g' l F H Wx σ Q (ev G c e ρ)

def TPost (W : Addr → Prop) (ia : Option Addr) (g' : Lv) (F H : Hp) (σ : L2.St) (Q : Bool → Hp → Prop) : R (D × DEnv) → Prop
  | .ok (d, ρ') => ∃ b, truth d = .ok b ∧ ∀ F' H' fps', Rel T W ia F' H' σ ρ' g' fps' → Pres W F H F' H' → Q b H'
  | .ex c dv => XPost T W F H Wx σ c dv
  | .bad => False
def tT (e : E) (g g' : Lv) : TT := fun σ H Q => ∃ W ia F ρ fps, ia.isSome = io ∧ Rel T W ia F H σ ρ g fps ∧ TPost T Wx W ia g' F H σ Q (ev G c e ρ)

/-- not a name -/
def notVar : E → Bool
  | .var _ => false
  | _ => true
/-- operands: names by their slots, others owned by nobody else -/
inductive Opr (F H : Hp) (σ : L2.St) (ρ : DEnv) : Es → List V → List D → List Addr → Prop
  | nil : Opr F H σ ρ .nil [] [] []
  | var {i v d es vs ds fp} : σ[i]? = some (some v) → ρ[i]? = some (some d) → Opr F H σ ρ es vs ds fp → Opr F H σ ρ (.cons (.var i) es) (v :: vs) (d :: ds) fp
  | tmp {e es k v d fp vs ds fq} : notVar e = true → k ≤ 1 → RO T F H k v d fp → Opr F H σ ρ es vs ds fq → Opr F H σ ρ (.cons e es) (v :: vs) (d :: ds) (fp ++ fq)

def OPost (es : Es) (W : Addr → Prop) (ia : Option Addr) (g' : Lv) (F H : Hp) (σ : L2.St) (Q : List V → Hp → Prop) : R (List D × DEnv) → Prop
  | .ok (ds, ρ') => ∀ vs F' H' fps' fp, Rel T W ia F' H' σ ρ' g' fps' → Pres W F H F' H' → Opr T F' H' σ ρ' es vs ds fp → New W F' H' fps' fp → Q vs H'
  | .ex c dv => XPost T W F H Wx σ c dv
  | .bad => False
def tOps (es : Es) (g g' : Lv) : TA := fun σ H Q => ∃ W ia F ρ fps, ia.isSome = io ∧ Rel T W ia F H σ ρ g fps ∧ OPost T Wx es W ia g' F H σ Q (evOps G c es ρ)

inductive ROz (F H : Hp) (l : Nat) : List V → List D → List Addr → Prop
  | mk {vs ds fp} : ROs T F H l vs ds fp → ROz F H l vs ds fp
def APost (l : Nat) (W : Addr → Prop) (ia : Option Addr) (g' : Lv) (F H : Hp) (σ : L2.St) (Q : List V → Hp → Prop) : R (List D × DEnv) → Prop
  | .ok (ds, ρ') => ∀ vs F' H' fps' fp, Rel T W ia F' H' σ ρ' g' fps' → Pres W F H F' H' → ROs T F' H' l vs ds fp → New W F' H' fps' fp → Q vs H'
  | .ex c dv => XPost T W F H Wx σ c dv
  | .bad => False
def tEs (es : Es) (g g' : Lv) (l : Nat) : TA := fun σ H Q => ∃ W ia F ρ fps, ia.isSome = io ∧ Rel T W ia F H σ ρ g fps ∧ APost T Wx l W ia g' F H σ Q (evs G c es ρ)
end

section
variable {T : Tb} {G : Nat → R D} {c : Callee} {io : Bool} {Wx : WX} {W : Addr → Prop} {ia : Option Addr} {F F' H H' : Hp} {σ : L2.St} {ρ ρ' : DEnv} {g g' g1 g2 : Lv} {fps : Nat → List Addr} {fp : List Addr} {Q : VK} {es : Es} {vs : List V} {ds : List D}

theorem Opr.stab (h : Le F F') (o : Opr T F H σ ρ es vs ds fp) (q : ∀ a ∈ fp, H' a = H a ∧ F' a = none) : Opr T F' H' σ ρ es vs ds fp := by
  induction o with
  | nil => exact .nil
  | var e1 e2 _ ih => exact .var e1 e2 (ih q)
  | tmp n k r _ ih => exact .tmp n k (r.stab h fun a m => q a (List.mem_append_left _ m)) (ih fun a m => q a (List.mem_append_right _ m))

/-- what is new stays while the rest goes on, and both are apart -/
theorem New.both {F1 H1 F2 H2 : Hp} {fps1 fps2 : Nat → List Addr} {fp fq : List Addr} (n : New W F1 H1 fps1 fp) (p : Pres (addW W fp) F1 H1 F2 H2) (r : Rel T (addW W fp) ia F2 H2 σ ρ g fps2) (m : New (addW W fp) F2 H2 fps2 fq) : New W F2 H2 fps2 (fp ++ fq) := by
  refine ⟨List.nodup_append.mpr ⟨n.nd, m.nd, fun a h b h' e => ?_⟩, fun a h => ?_⟩
  · subst e
    exact (m.ok a h').1 (.inr h)
  · rcases List.mem_append.mp h with h | h
    · obtain ⟨h1, h2, h3, h4⟩ := n.ok a h
      refine ⟨h1, fun i z => (r.own i a z).2.2 (.inr h), p.dom a h3, p.n a (.inr h) h4⟩
    · obtain ⟨h1, h2, h3, h4⟩ := m.ok a h
      exact ⟨fun w => h1 (.inl w), h2, h3, h4⟩
theorem New.stay {F1 H1 F2 H2 : Hp} {fps1 fps2 : Nat → List Addr} {fp : List Addr} (n : New W F1 H1 fps1 fp) (p : Pres (addW W fp) F1 H1 F2 H2) (r : Rel T (addW W fp) ia F2 H2 σ ρ g fps2) : New W F2 H2 fps2 fp := by
  have := n.both p r (New.nil)
  simpa using this
theorem New.here {F1 H1 F2 H2 : Hp} {fps1 : Nat → List Addr} {fp : List Addr} (n : New W F1 H1 fps1 fp) (p : Pres (addW W fp) F1 H1 F2 H2) : ∀ a ∈ fp, H2 a = H1 a ∧ F2 a = none := fun a h => ⟨p.h a (.inr h), p.n a (.inr h) (n.ok a h).2.2.2⟩
theorem addW_l {a : Addr} (h : W a) : addW W fp a := .inl h

theorem tI.ok {e : E} {l : Nat} (W : Addr → Prop) (ia : Option Addr) (F : Hp) (ρ : DEnv) (fps : Nat → List Addr) (hi : ia.isSome = io) (r : Rel T W ia F H σ ρ g fps) (h : EPost T W ia g' l F H Wx σ Q (ev G c e ρ)) : tI T G c io Wx e g g' l σ H Q := ⟨W, ia, F, ρ, fps, hi, r, h⟩

/-! ### operands from the left -/
theorem getV_ok {ρ : DEnv} {i : Nat} {d : D} (h : getV ρ i = .ok d) : ρ[i]? = some (some d) := by
  unfold getV at h
  split at h
  · rename_i d' e; cases h; exact e
  · cases h
theorem getV_some {ρ : DEnv} {i : Nat} {d : D} (h : ρ[i]? = some (some d)) : getV ρ i = .ok d := by unfold getV; rw [h]
theorem getV_ex {ρ : DEnv} {i : Nat} {k : Nat} {v : D} : getV ρ i ≠ .ex k v := by
  unfold getV
  split <;> simp

theorem ops_nil {Q : List V → Hp → Prop} (h : tOps T G c io Wx .nil g g σ H Q) : Q [] H := by
  obtain ⟨W, ia, F, ρ, fps, hi, r, h⟩ := h
  exact h [] F H fps [] r Pres.refl .nil New.nil

theorem ops_tmp {e : E} {l : Nat} {Q : List V → Hp → Prop} (hv : notVar e = true) (h : tOps T G c io Wx (.cons e es) g g' σ H Q) :
    tI T G c io Wx e g g1 l σ H fun x H1 => tOps T G c io Wx es g1 g' σ H1 fun xs H2 => Q (x :: xs) H2 := by
  obtain ⟨W, ia, F, ρ, fps, hi, r, h⟩ := h
  refine ⟨W, ia, F, ρ, fps, hi, r, ?_⟩
  have e1 : evOps G c (.cons e es) ρ = (ev G c e ρ).bind fun (d, ρ1) => (evOps G c es ρ1).bind fun (ds, ρ2) => .ok (d :: ds, ρ2) := by
    cases e <;> first | (simp [notVar] at hv; done) | rfl
  rw [e1] at h
  cases he : ev G c e ρ with
  | bad => rw [he] at h; exact h
  | ex k dv => rw [he] at h; exact h
  | ok p =>
    obtain ⟨d, ρ1⟩ := p
    rw [he] at h
    intro v F1 H1 fps1 fp1 r1 p1 o1 n1
    obtain ⟨F1', fp1', r1', p1', n1', o1'⟩ := r1.weakNew n1 o1 (Nat.min_le_left l 1)
    refine ⟨addW W fp1', ia, F1', ρ1, fps1, hi, r1'.hold n1', ?_⟩
    have pp := p1.trans p1'
    cases hs : evOps G c es ρ1 with
    | bad => simp [hs] at h; exact h
    | ex k dv =>
      simp [hs] at h
      exact XPost.step (show XPost T W F H Wx σ k dv from h) pp (fun _ => addW_l)
    | ok q =>
      obtain ⟨ds, ρ2⟩ := q
      simp [hs] at h
      intro vs F2 H2 fps2 fp2 r2 p2 o2 n2
      exact h (v :: vs) F2 H2 fps2 (fp1' ++ fp2) (r2.monoW fun _ => addW_l) (pp.trans (p2.mono fun _ => addW_l)) (.tmp hv (Nat.min_le_right l 1) (o1'.stab p2.f (n1'.here p2)) o2) (n1'.both p2 r2 n2)

theorem ops_var {i : Nat} {Q : List V → Hp → Prop} (h : tOps T G c io Wx (.cons (.var i) es) g g' σ H Q) :
    tVar i σ H fun x H1 => tOps T G c io Wx es g g' σ H1 fun xs H2 => Q (x :: xs) H2 := by
  obtain ⟨W, ia, F, ρ, fps, hi, r, h⟩ := h
  have e1 : evOps G c (.cons (.var i) es) ρ = (getV ρ i).bind fun _ => (evOps G c es ρ).bind fun (ds, ρ2) => (getV ρ2 i).bind fun d => .ok (d :: ds, ρ2) := rfl
  rw [e1] at h
  cases hg : getV ρ i with
  | bad => rw [hg] at h; exact False.elim h
  | ex k v => exact absurd hg getV_ex
  | ok d0 =>
    rw [hg] at h
    obtain ⟨v, hσ, ro⟩ := r.slot i d0 (getV_ok hg)
    refine ⟨v, hσ, W, ia, F, ρ, fps, hi, r, ?_⟩
    cases hs : evOps G c es ρ with
    | bad => simp [hs] at h; exact h
    | ex k dv => simp [hs] at h; exact h
    | ok q =>
      obtain ⟨ds, ρ2⟩ := q
      simp [hs] at h
      intro vs F2 H2 fps2 fp2 r2 p2 o2 n2
      cases hg2 : getV ρ2 i with
      | bad => rw [hg2] at h; exact False.elim h
      | ex k v => exact absurd hg2 getV_ex
      | ok d =>
        rw [hg2] at h
        obtain ⟨v2, hσ2, ro2⟩ := r2.slot i d (getV_ok hg2)
        have ev : v2 = v := by rw [hσ] at hσ2; cases hσ2; rfl
        subst ev
        exact h (v2 :: vs) F2 H2 fps2 fp2 r2 p2 (.var hσ (getV_ok hg2) o2) n2

/-! ### what operands tell -/
/-- the parts of an operand: an object, its parts frozen -/
def Part (T : Tb) (F H : Hp) (v : V) : D → Prop
  | .list ds => ∃ a vs, v = .ref a ∧ LL T.K H a vs ∧ RDs T F vs ds
  | .tup ds => ∃ a vs, v = .ref a ∧ SqT T.K H a vs ∧ RDs T F vs ds
  | .dict ks ds => ∃ a kvs, v = .ref a ∧ H a = some (.dK kvs) ∧ ks = kvs.map (fun p => keyD p.1) ∧ RDs T F (kvs.map (·.2)) ds
  | d => RD T F v d
theorem RO.zero {v : V} {d : D} {fp : List Addr} : RO T F H 0 v d fp → RD T F v d := by
  intro r
  cases r with
  | frz r => exact r
  | sc _ r => exact r
theorem ROs.zero : ∀ {vs : List V} {ds : List D} {fp : List Addr}, ROs T F H 0 vs ds fp → RDs T F vs ds
  | _, _, _, .nil => .nil
  | _, _, _, .cons r s => .cons r.zero s.zero
theorem RO.part0 {k : Nat} (hk : k + 1 ≤ 1) {vs : List V} {ds : List D} {fp : List Addr} (s : ROs T F H k vs ds fp) : RDs T F vs ds := by
  obtain rfl : k = 0 := by omega
  exact s.zero
theorem RD.part (h : Le F H) {v : V} {d : D} (r : RD T F v d) : Part T F H v d := by
  cases r with
  | non => exact .non
  | bool b => exact .bool b
  | int i => exact .int i
  | str s => exact .str s
  | list e s => exact ⟨_, _, rfl, LL.le h e, s⟩
  | tup e s => exact ⟨_, _, rfl, SqT.le h e, s⟩
  | dict e s => exact ⟨_, _, rfl, h _ _ e, rfl, s⟩
  | fn e => exact .fn e
  | cls e => exact .cls e
theorem RO.part (h : Le F H) {k : Nat} {v : V} {d : D} {fp : List Addr} (hk : k ≤ 1) (r : RO T F H k v d fp) : Part T F H v d := by
  cases r with
  | frz r => exact r.part h
  | sc _ r => exact r.part h
  | tupF r => exact r.part h
  | list e n s => exact ⟨_, _, rfl, .inl (.inl e), RO.part0 hk s⟩
  | tup e n s => exact ⟨_, _, rfl, .inl (.inl e), RO.part0 hk s⟩
  | dict e n s => exact ⟨_, _, rfl, e, rfl, RO.part0 hk s⟩
inductive Parts (T : Tb) (F H : Hp) : List V → List D → Prop
  | nil : Parts T F H [] []
  | cons {v vs d ds} : Part T F H v d → RD T H v d → Parts T F H vs ds → Parts T F H (v :: vs) (d :: ds)
theorem varsOf_tmp {e : E} (h : notVar e = true) : varsOf (.cons e es) = varsOf es := by
  cases e <;> first | rfl | (simp [notVar] at h; done)
theorem Opr.parts (r : Rel T W ia F H σ ρ g fps) (o : Opr T F H σ ρ es vs ds fp) (hv : ∀ i ∈ varsOf es, g.getD i 0 ≤ 1) : Parts T F H vs ds := by
  induction o with
  | nil => exact .nil
  | @var i v d es vs ds fp e1 e2 _ ih =>
    obtain ⟨v', e3, ro⟩ := r.slot i d e2
    rw [e1] at e3; cases e3
    exact .cons (ro.part r.sub (hv i List.mem_cons_self)) (ro.here r.sub) (ih fun j m => hv j (List.mem_cons_of_mem _ m))
  | tmp n k ro _ ih =>
    exact .cons (ro.part r.sub k) (ro.here r.sub) (ih fun j m => hv j (by rw [varsOf_tmp n]; exact m))

/-- .. all of them frozen for a while -/
theorem Opr.partsF (r : Rel T W ia F H σ ρ g fps) (o : Opr T F H σ ρ es vs ds fp) : ∃ F2, Le F F2 ∧ Le F2 H ∧ Parts T F2 H vs ds := by
  refine ⟨addP F H fun a => (∃ i ∈ varsOf es, a ∈ fps i) ∨ a ∈ fp, addP_le r.sub, addP_sub r.sub, ?_⟩
  have key : ∀ (F2 : Hp), Le F F2 → Le F2 H → (∀ i ∈ varsOf es, ∀ a ∈ fps i, F2 a = H a) → (∀ a ∈ fp, F2 a = H a) → Parts T F2 H vs ds := by
    intro F2 l1 l2 h1 h2
    induction o with
    | nil => exact .nil
    | @var i v d es vs ds fp e1 e2 _ ih =>
      obtain ⟨v', e3, ro⟩ := r.slot i d e2
      rw [e1] at e3; cases e3
      have rd := ro.toRD l1 (h1 i List.mem_cons_self)
      exact .cons (rd.part l2) (rd.le l2) (ih (fun j m => h1 j (List.mem_cons_of_mem _ m)) h2)
    | tmp n k ro _ ih =>
      have rd := ro.toRD l1 fun a m => h2 a (List.mem_append_left _ m)
      exact .cons (rd.part l2) (rd.le l2) (ih (fun j m => h1 j (by rw [varsOf_tmp n]; exact m)) fun a m => h2 a (List.mem_append_right _ m))
  exact key _ (addP_le r.sub) (addP_sub r.sub) (fun i m a ha => addP_in (.inl ⟨i, m, ha⟩)) fun a m => addP_in (.inr m)
/-! ### what a built-in is asked -/
/-- the values of the operands, by the data -/
def rP (T : Tb) (p : Prim) (vs : List V) (H : Hp) (Q : VK) : Prop := ∃ F ds d, Le F H ∧ Parts T F H vs ds ∧ prim p ds = .ok d ∧
  ∀ v H' fp, Le H H' → RO T F H' p.lv v d fp → fp.Nodup → (∀ a ∈ fp, H a = none ∧ H' a ≠ none) → Q v H'
theorem prim_ne_ex {p : Prim} {ds : List D} {k : Nat} {v : D} : prim p ds ≠ .ex k v := by
  unfold prim
  cases primR p ds <;> simp only [scOk] <;> (try split) <;> simp
theorem prim_ok {p : Prim} {ds : List D} {d : D} (h : prim p ds = .ok d) : primR p ds = .ok d := by
  unfold prim at h
  cases e : primR p ds with
  | ok x =>
    rw [e] at h
    simp only [scOk] at h
    split at h
    · cases h
    · exact h
  | ex k v => rw [e] at h; cases h
  | bad => rw [e] at h; cases h
theorem prim_sc {p : Prim} {ds : List D} {d : D} (hp : p.lv = 9) (h : prim p ds = .ok d) : scalar d = true := by
  have e := prim_ok h
  unfold prim at h
  rw [e] at h
  simp only [scOk] at h
  split at h
  · cases h
  · rename_i z
    rw [hp] at z
    simpa using z
theorem none_of_le {F H : Hp} (h : Le F H) {a : Addr} (e : H a = none) : F a = none := by
  cases q : F a with
  | none => rfl
  | some o => rw [h a o q] at e; cases e
theorem tI_prim {p : Prim} (hv : ∀ i ∈ varsOf es, i < g'.length) (h : tI T G c io Wx (.prim p es) g (outL p es g') p.lv σ H Q) : tOps T G c io Wx es g g' σ H fun vs H' => rP T p vs H' Q := by
  obtain ⟨W, ia, F, ρ, fps, hi, r, h⟩ := h
  refine ⟨W, ia, F, ρ, fps, hi, r, ?_⟩
  have e1 : ev G c (.prim p es) ρ = (evOps G c es ρ).bind fun (ds, ρ1) => (prim p ds).bind fun d => .ok (d, ρ1) := by simp [ev]
  rw [e1] at h
  cases hs : evOps G c es ρ with
  | bad => simp [hs] at h; exact h
  | ex k dv => simp [hs] at h; exact h
  | ok q =>
    obtain ⟨ds, ρ1⟩ := q
    simp [hs] at h
    intro vs F' H' fps' fp r' p' o' n'
    cases hp : prim p ds with
    | bad => rw [hp] at h; exact False.elim h
    | ex k v => exact absurd hp prim_ne_ex
    | ok d =>
      rw [hp] at h
      by_cases h9 : p.lv = 9
      · obtain ⟨F2, l1, l2, ps⟩ := o'.partsF r'
        refine ⟨F2, ds, d, l2, ps, hp, fun v H2 fq hle ro nd nw => ?_⟩
        have hd := prim_sc h9 hp
        have eo : outL p es g' = g' := by unfold outL; rw [if_pos h9]
        rw [eo] at h
        exact h v F' H2 fps' [] (r'.ext hle) (p'.ext hle r.held) (.sc hd (RD.scl hd (ro.scl hd))) New.nil
      · have eo : outL p es g' = lowOps es g' := by unfold outL; rw [if_neg h9]
        rw [eo] at h
        obtain ⟨F1, fps1, r1, p1, s1⟩ := (r'.hold n').weakAll (low_le (io := io) (es := es)) hi
        have o1 : Opr T F1 H' σ ρ1 es vs ds fp := o'.stab p1.f (n'.here p1)
        have r1' := r1.monoW (W' := W) fun _ => addW_l
        refine ⟨F1, ds, d, r1.sub, o1.parts r1 (fun i m => low_get m), hp, fun v H2 fq hle ro nd nw => ?_⟩
        refine h v F1 H2 fps1 fq (r1'.ext hle) ((p'.trans (p1.mono fun _ => addW_l)).ext hle r.held) ro ⟨nd, fun a m => ⟨fun w => ?_, fun i z => ?_, (nw a m).2, none_of_le r1.sub (nw a m).1⟩⟩
        · exact r'.held a w (nw a m).1
        · exact (r1.own i a z).1 (nw a m).1
end
end Fh
end
section
set_option maxRecDepth 100000
set_option maxHeartbeats 2000000
/-! Operands that the layer's rules can read; the syntax that uses them. -/
namespace Fh
open PySem PySem.Spec PyProof.Rows L2

theorem star_of {X : Cx} {ex : Expr} {exs : List Expr} (h : noStar ex = true) : starEach (ex :: exs) X.env = (false, eval ex X.env) :: starEach exs X.env := by
  cases ex <;> first | rfl | (simp [noStar] at h; done)
theorem plain_stars {X : Cx} {pos : Pos} : ∀ {exs : List Expr}, (∀ e ∈ exs, noStar e = true) → (backTo pos (starEach exs X.env)).any (·.1) = false
  | [], _ => rfl
  | e :: es, h => by
    rw [star_of (h e List.mem_cons_self)]
    show (false || (backTo pos (starEach es X.env)).any (·.1)) = false
    rw [plain_stars fun x m => h x (List.mem_cons_of_mem _ m)]
    rfl

section
variable (T : Tb) (G : Nat → R D) (c : Callee) (io : Bool) (Wx : WX) (X : Cx)
inductive POps : Es → List Expr → Lv → Lv → Prop
  | nil {g} : POps .nil [] g g
  | var {i ex es exs g g2} : noStar ex = true → PE X ex (tVar i) → i < g.length → i < g2.length → POps es exs g g2 → POps (.cons (.var i) es) (ex :: exs) g g2
  | tmp {e ex l es exs g g1 g2} : noStar ex = true → notVar e = true → PE X ex (tI T G c io Wx e g g1 l) → POps es exs g1 g2 → POps (.cons e es) (ex :: exs) g g2
end
section
variable {T : Tb} {G : Nat → R D} {c : Callee} {io : Bool} {Wx : WX} {X : Cx} {es : Es} {exs : List Expr} {g g' g1 g2 : Lv} {e : E} {ex : Expr}
theorem POps.vars (h : POps T G c io Wx X es exs g g') : ∀ i ∈ varsOf es, i < g'.length := by
  induction h with
  | nil => intro i m; simp [varsOf] at m
  | @var i ex es exs g g2 _ _ _ hi _ ih =>
    intro j m
    rcases List.mem_cons.mp m with z | z
    · rw [z]; exact hi
    · exact ih j z
  | @tmp e ex l es exs g g1 g2 _ hv _ _ ih =>
    intro j m
    rw [varsOf_tmp hv] at m
    exact ih j m
theorem POps.stars (h : POps T G c io Wx X es exs g g') : ∀ e ∈ exs, noStar e = true := by
  induction h with
  | nil => intro i m; simp at m
  | var hs _ _ _ _ ih => intro j m; rcases List.mem_cons.mp m with rfl | z; exact hs; exact ih j z
  | tmp hs _ _ _ ih => intro j m; rcases List.mem_cons.mp m with rfl | z; exact hs; exact ih j z
def Mono (ta : TE) : Prop := ∀ σ H (Q Q' : VK), (∀ v H', Q v H' → Q' v H') → ta σ H Q → ta σ H Q'
theorem mono_var {i : Nat} : Mono (tVar i) := fun σ H Q Q' m ⟨v, e, q⟩ => ⟨v, e, m _ _ q⟩
theorem mono_tI {l : Nat} : Mono (tI T G c io Wx e g g' l) := fun σ H Q Q' m ⟨W, ia, F, ρ, fps, hi, r, q⟩ => by
  refine ⟨W, ia, F, ρ, fps, hi, r, ?_⟩
  unfold EPost at q ⊢
  split at q
  · exact fun v F' H' fps' fp a1 a2 a3 a4 => m _ _ (q v F' H' fps' fp a1 a2 a3 a4)
  · exact q
  · exact q
theorem POps.head (h : POps T G c io Wx X (.cons e es) (ex :: exs) g g') : ∃ ta g1 g2, PE X ex ta ∧ Mono ta ∧ noStar ex = true ∧ POps T G c io Wx X es exs g1 g2 ∧
    ∀ σ H Q, tOps T G c io Wx (.cons e es) g g' σ H Q → ta σ H fun x H1 => tOps T G c io Wx es g1 g2 σ H1 fun xs H2 => Q (x :: xs) H2 := by
  cases h with
  | var hs hp h1 h2 hr => exact ⟨_, _, _, hp, mono_var, hs, hr, fun σ H Q q => ops_var q⟩
  | tmp hs hv hp hr => exact ⟨_, _, _, hp, mono_tI, hs, hr, fun σ H Q q => ops_tmp hv q⟩
theorem POps.last (h : POps T G c io Wx X .nil [] g g') : ∀ σ H Q, tOps T G c io Wx .nil g g' σ H Q → Q [] H := by
  cases h
  exact fun σ H Q q => ops_nil q
theorem POps.pa (h : POps T G c io Wx X es exs g g') : PA X exs (tOps T G c io Wx es g g') := by
  induction h with
  | nil => exact PA.of pa_nil fun σ H Q q => ops_nil q
  | var hs hp h1 h2 hr ih => exact PA.of (pa_cons hp ih (star_of hs)) fun σ H Q q => ops_var q
  | tmp hs hv hp hr ih => exact PA.of (pa_cons hp ih (star_of hs)) fun σ H Q q => ops_tmp hv q
/-- one, two, three operands -/
theorem POps.one (h : POps T G c io Wx X es [ex] g g') : ∃ ta, PE X ex ta ∧ Mono ta ∧ noStar ex = true ∧ ∀ σ H Q, tOps T G c io Wx es g g' σ H Q → ta σ H fun x H1 => Q [x] H1 := by
  cases es with
  | nil => cases h
  | cons e es =>
    obtain ⟨ta, g1, g2, h1, m1, n1, h2, q1⟩ := h.head
    cases es with
    | cons e es => cases h2
    | nil => exact ⟨ta, h1, m1, n1, fun σ H Q q => m1 σ H _ _ (fun v H' z => h2.last σ H' _ z) (q1 σ H Q q)⟩
theorem POps.two {ey : Expr} (h : POps T G c io Wx X es [ex, ey] g g') : ∃ ta tb, PE X ex ta ∧ PE X ey tb ∧ Mono ta ∧ Mono tb ∧ noStar ex = true ∧ noStar ey = true ∧
    ∀ σ H Q, tOps T G c io Wx es g g' σ H Q → ta σ H fun x H1 => tb σ H1 fun y H2 => Q [x, y] H2 := by
  cases es with
  | nil => cases h
  | cons e es =>
    obtain ⟨ta, g1, g2, h1, m1, n1, h2, q1⟩ := h.head
    obtain ⟨tb, h3, m2, n2, q2⟩ := h2.one
    exact ⟨ta, tb, h1, h3, m1, m2, n1, n2, fun σ H Q q => m1 σ H _ _ (fun v H' z => q2 σ H' _ z) (q1 σ H Q q)⟩
theorem POps.three {ey ez : Expr} (h : POps T G c io Wx X es [ex, ey, ez] g g') : ∃ ta tb tc, PE X ex ta ∧ PE X ey tb ∧ PE X ez tc ∧ Mono ta ∧ Mono tb ∧ Mono tc ∧
    ∀ σ H Q, tOps T G c io Wx es g g' σ H Q → ta σ H fun x H1 => tb σ H1 fun y H2 => tc σ H2 fun z H3 => Q [x, y, z] H3 := by
  cases es with
  | nil => cases h
  | cons e es =>
    obtain ⟨ta, g1, g2, h1, m1, n1, h2, q1⟩ := h.head
    obtain ⟨tb, tc, h3, h4, m2, m3, _, _, q2⟩ := h2.two
    exact ⟨ta, tb, tc, h1, h3, h4, m1, m2, m3, fun σ H Q q => m1 σ H _ _ (fun v H' z => q2 σ H' _ z) (q1 σ H Q q)⟩
end
end Fh
end
section
set_option maxRecDepth 100000
set_option maxHeartbeats 2000000
/-! Each built-in by its values. -/
namespace Fh
open PySem PySem.Spec PyProof.Rows L2

section
variable {T : Tb} {X : Cx} {p : Prim}

/-- what is told of a use -/
structure Use (T : Tb) (p : Prim) (F H : Hp) (Q : VK) (d : D) : Prop where
  le : Le F H
  k : ∀ v H' fp, Le H H' → RO T F H' p.lv v d fp → fp.Nodup → (∀ a ∈ fp, H a = none ∧ H' a ≠ none) → Q v H'
theorem Use.sc {F H : Hp} {Q : VK} {d : D} (u : Use T p F H Q d) (h : scalar d = true) {v : V} (r : RD T F v d) : Q v H := u.k v H [] (Le.refl _) (.sc h r) List.nodup_nil (by simp)
theorem Use.int {F H : Hp} {Q : VK} {i : Int} (u : Use T p F H Q (.int i)) : Q (.int i) H := u.sc rfl (.int i)
theorem Use.bool {F H : Hp} {Q : VK} {b : Bool} (u : Use T p F H Q (.bool b)) : Q (.bl b) H := u.sc rfl (.bool b)
theorem Use.str {F H : Hp} {Q : VK} {b : Str} (u : Use T p F H Q (.str b)) : Q (.str b) H := u.sc rfl (.str b)
theorem Use.old {F H : Hp} {Q : VK} {d : D} {v : V} (u : Use T p F H Q d) (h : p.lv = 0) (r : RD T F v d) : Q v H := u.k v H [] (Le.refl _) (by rw [h]; exact .frz r) List.nodup_nil (by simp)
theorem Use.oldT {F H : Hp} {Q : VK} {ds : List D} {v : V} (u : Use T p F H Q (.tup ds)) (h : p.lv = 1) (r : RD T F v (.tup ds)) : Q v H := u.k v H [] (Le.refl _) (by rw [h]; exact .tupF r) List.nodup_nil (by simp)
theorem RDs.ros0 {F H : Hp} : ∀ {vs : List V} {ds : List D}, RDs T F vs ds → ROs T F H 0 vs ds []
  | _, _, .nil => .nil
  | _, _, .cons r s => by
    have := ROs.cons (fp := []) (fq := []) (RO.frz (H := H) r) (RDs.ros0 (H := H) s)
    simpa using this
theorem le_upd {H : Hp} {q : Addr} {o : HO} (h : H q = none) : Le H (upd H q o) := fun a x e => by
  rw [upd_ne (ne_of_none e h)]
  exact e
theorem Use.lst {F H : Hp} {Q : VK} {ds : List D} {vs : List V} (u : Use T p F H Q (.list ds)) (h : p.lv = 1) (r : RDs T F vs ds) : ∀ q, H q = none → Q (.ref q) (upd H q (.lst vs)) := fun q hq =>
  u.k (.ref q) _ [q] (le_upd hq) (by rw [h]; exact .list upd_same (none_of_le u.le hq) r.ros0) (by simp) (by
    intro a m
    obtain rfl : a = q := by simpa using m
    exact ⟨hq, by rw [upd_same]; simp⟩)
theorem Use.tup {F H : Hp} {Q : VK} {ds : List D} {vs : List V} (u : Use T p F H Q (.tup ds)) (h : p.lv = 1) (r : RDs T F vs ds) : ∀ q, H q = none → Q (.ref q) (upd H q (.tup vs)) := fun q hq =>
  u.k (.ref q) _ [q] (le_upd hq) (by rw [h]; exact .tup upd_same (none_of_le u.le hq) r.ros0) (by simp) (by
    intro a m
    obtain rfl : a = q := by simpa using m
    exact ⟨hq, by rw [upd_same]; simp⟩)

theorem rP1 {x : V} {H : Hp} {Q : VK} (h : rP T p [x] H Q) : ∃ F d1 d, Part T F H x d1 ∧ RD T H x d1 ∧ primR p [d1] = .ok d ∧ Use T p F H Q d := by
  obtain ⟨F, ds, d, le, ps, hp, k⟩ := h
  cases ps with
  | cons a1 b1 ps =>
    cases ps
    exact ⟨F, _, d, a1, b1, prim_ok hp, ⟨le, k⟩⟩
theorem rP2 {x y : V} {H : Hp} {Q : VK} (h : rP T p [x, y] H Q) : ∃ F d1 d2 d, Part T F H x d1 ∧ RD T H x d1 ∧ Part T F H y d2 ∧ RD T H y d2 ∧ primR p [d1, d2] = .ok d ∧ Use T p F H Q d := by
  obtain ⟨F, ds, d, le, ps, hp, k⟩ := h
  cases ps with
  | cons a1 b1 ps =>
    cases ps with
    | cons a2 b2 ps =>
      cases ps
      exact ⟨F, _, _, d, a1, b1, a2, b2, prim_ok hp, ⟨le, k⟩⟩
theorem rP3 {x y z : V} {H : Hp} {Q : VK} (h : rP T p [x, y, z] H Q) : ∃ F d1 d2 d3 d, Part T F H x d1 ∧ RD T H x d1 ∧ Part T F H y d2 ∧ Part T F H z d3 ∧ primR p [d1, d2, d3] = .ok d ∧ Use T p F H Q d := by
  obtain ⟨F, ds, d, le, ps, hp, k⟩ := h
  cases ps with
  | cons a1 b1 ps =>
    cases ps with
    | cons a2 b2 ps =>
      cases ps with
      | cons a3 b3 ps =>
        cases ps
        exact ⟨F, _, _, _, d, a1, b1, a2, a3, prim_ok hp, ⟨le, k⟩⟩

theorem Part.int {F H : Hp} {v : V} {i : Int} (h : Part T F H v (.int i)) : v = .int i := by cases (show RD T F v (.int i) from h); rfl
theorem Part.bool {F H : Hp} {v : V} {i : Bool} (h : Part T F H v (.bool i)) : v = .bl i := by cases (show RD T F v (.bool i) from h); rfl
theorem Part.str {F H : Hp} {v : V} {i : Str} (h : Part T F H v (.str i)) : v = .str i := by cases (show RD T F v (.str i) from h); rfl
theorem Part.non {F H : Hp} {v : V} (h : Part T F H v .non) : v = .non := by cases (show RD T F v .non from h); rfl

/-- the list's own object -/
theorem lstX {X : Cx} {pins : List (Addr × Obj)} {σ : L2.St} {H : Hp} {s : Shared} {a : Addr} {xs : List V} (I : Inv X pins σ H s) (h : LL X.K H a xs) :
    ∃ (its : List Value) (n : Nat), Vals xs its ∧ s.heap.get? a = some { cls := .type "list", data := .seq its.toArray n } ∧ xs.length ≤ sizeLine := by
  rcases h with h | ⟨its, n, hk, hz, r⟩
  · obtain ⟨z, its, n, r, e⟩ := h.ok I.hok
    exact ⟨its, n, r, e, z⟩
  · refine ⟨its.toList, n, r, ?_, ?_⟩
    · have := I.kIn a _ hk
      simpa using this
    · have e := r.length
      simp only [Array.length_toList] at e
      omega
theorem newL {X : Cx} {pins : List (Addr × Obj)} {σ : L2.St} {H : Hp} {s : Shared} {zs : List V} {us : List Value} (I : Inv X pins σ H s) (r : Vals zs us) (hz : zs.length ≤ sizeLine) :
    Inv X pins σ (upd H s.heap.objs.size (.lst zs)) { s with heap := s.heap.push { cls := .type "list", data := .seq us.toArray } } ∧ H s.heap.objs.size = none :=
  ⟨I.laid (t' := s.toks) (fun b u e => Heap.get?_push_of_some _ e) (Nat.le_refl _) ⟨hz, us, 0, r, Heap.get?_push_size _ rfl⟩, I.hok.fresh (Nat.le_refl _)⟩
theorem szLine : SZ = sizeLine := sizeLine_eq.symm

/-! ### arithmetic -/
theorem or_add (hK : X.K = T.K) : OpR X (binaryOp .Add) (fun x y H Q => rP T .add [x, y] H Q) := by
  intro pins s σ H x y v u Q I rx ry h
  obtain ⟨F, d1, d2, d, p1, -, p2, -, hp, us⟩ := rP2 h
  replace hp : pAdd d1 d2 = .ok d := hp
  unfold pAdd at hp
  split at hp
  · cases hp
    cases p1.int; cases p2.int
    exact op_add pins s σ H _ _ v u Q I rx ry ⟨_, _, rfl, rfl, us.int⟩
  · rename_i xs ys
    split at hp
    · rename_i hz
      cases hp
      obtain ⟨a, vs, rfl, e1, r1⟩ := p1
      obtain ⟨b, ws, rfl, e2, r2⟩ := p2
      rw [← hK] at e1 e2
      cases rx; cases ry
      obtain ⟨its, n, q1, g1, z1⟩ := lstX I e1
      obtain ⟨its2, n2, q2, g2, z2⟩ := lstX I e2
      have l1 := r1.length; have l2 := r2.length; have l3 := q1.length; have l4 := q2.length
      have hzz : (vs ++ ws).length ≤ sizeLine := by rw [← szLine, List.length_append]; omega
      refine PySem.P.add_list g1 g2 ?_ (by rw [List.size_toArray, List.size_toArray, ← szLine]; omega)
      have ea : its.toArray ++ its2.toArray = (its ++ its2).toArray := by simp
      rw [ea]
      obtain ⟨I2, fr⟩ := newL I (q1.append q2) hzz
      exact ⟨.ref _, _, I2, rfl, us.lst rfl (r1.append r2) _ fr⟩
    · cases hp
  · rename_i a b
    split at hp
    · rename_i hz
      cases hp
      cases p1.str; cases p2.str
      exact op_add_str pins s σ H _ _ v u Q I rx ry ⟨_, _, rfl, rfl, by rw [← szLine]; exact hz, us.str⟩
    · cases hp
  · rename_i xs ys
    split at hp
    · rename_i hz
      cases hp
      obtain ⟨a, vs, rfl, e1, r1⟩ := p1
      obtain ⟨b, ws, rfl, e2, r2⟩ := p2
      have l1 := r1.length; have l2 := r2.length
      have e1' := e1; have e2' := e2
      rw [← hK] at e1 e2
      simp only [Bool.and_eq_true, decide_eq_true_eq, Bool.not_eq_true', List.isEmpty_eq_false_iff] at hz
      refine op_catA pins s σ H _ _ v u Q I rx ry ⟨a, b, vs, ws, rfl, rfl, e1, e2, by rw [← szLine]; omega, fun z => ?_, fun z1 z2 => ?_, fun _ _ q hq => us.tup rfl (r1.append r2) q hq⟩
      · subst z
        cases r1
        exact absurd rfl hz.1.2
      · subst z2
        cases r2
        exact absurd rfl hz.2
    · cases hp
  · cases hp
theorem or_sub : OpR X (binaryOp .Sub) (fun x y H Q => rP T .sub [x, y] H Q) := by
  intro pins s σ H x y v u Q I rx ry h
  obtain ⟨F, d1, d2, d, p1, -, p2, -, hp, us⟩ := rP2 h
  replace hp : pSub d1 d2 = .ok d := hp
  unfold pSub at hp
  split at hp
  · cases hp
    cases p1.int; cases p2.int
    exact op_sub pins s σ H _ _ v u Q I rx ry ⟨_, _, rfl, rfl, us.int⟩
  · cases hp
theorem vals_rep {xs : List V} {us : List Value} (r : Vals xs us) : ∀ n : Nat, Vals (List.replicate n xs).flatten (List.replicate n us).flatten
  | 0 => .nil
  | n + 1 => by simp only [List.replicate_succ, List.flatten_cons]; exact r.append (vals_rep r n)
theorem RDs.rep {F : Hp} {xs : List V} {us : List D} (r : RDs T F xs us) : ∀ n : Nat, RDs T F (List.replicate n xs).flatten (List.replicate n us).flatten
  | 0 => .nil
  | n + 1 => by simp only [List.replicate_succ, List.flatten_cons]; exact r.append (RDs.rep r n)
/-- a list's object times an int -/
theorem rep_at {prog : Program} {w : World} {A : Around} {s : Shared} {E : Value → Shared → Prop} {Q : Value → Shared → Prop} {l : Addr} {its : List Value} {m : Nat} {k : Int} {t : Tok}
    (e : s.heap.get? l = some { cls := .type "list", data := .seq its.toArray m }) (h1 : -(2 ^ 63) ≤ k) (h2 : k < 2 ^ 63) (hz : its.length * k.toNat ≤ sizeLine)
    (h : Q (.ref s.heap.objs.size) { s with heap := s.heap.push { cls := .type "list", data := .seq (List.replicate k.toNat its).flatten.toArray } }) :
    wpAny (model prog w) A (binaryOp .Mult (.ref l) (.int k t)) Q E s := by
  have n0 : its.toArray.size * k.toNat ≤ sizeLine := by simpa using hz
  have n1 : ¬ its.toArray.size * k.toNat > (2 ^ 63 - 1) / 8 := by
    have z : (sizeLine : Nat) ≤ (2 ^ 63 - 1) / 8 := by decide
    omega
  have n2 : ¬ (!Builtin.List.listFitsIndex k) = true := by simp [fitsIndex_both h1 h2]
  have n3 : ¬ Builtin.List.listTooLong (its.toArray.size * k.toNat) = true := by rw [notLongL n0]; decide
  have n4 : ∀ j : Nat, List.foldl (fun x1 x2 => x1 ++ x2) #[] (List.replicate j its.toArray) = (List.replicate j its).flatten.toArray := by
    intro j
    have z := foldl_rep its j []
    rwa [List.nil_append] at z
  have n5 : List.foldl (fun x1 x2 => x1 ++ x2) #[] (List.replicate (if its.toArray.isEmpty = true then 0 else k.toNat) its.toArray)
      = (List.replicate k.toNat its).flatten.toArray := by
    cases its with
    | nil => rw [n4]; simp
    | cons b r => rw [if_neg (by simp), n4]
  have lt : s.TypeIs (.ref l) "list" := ⟨_, e, rfl⟩
  have it : ∀ s' : Shared, s'.TypeIs (.int k t) "int" := fun s' => typeIs_int s' k t
  have step := AutoListH.list___mul___list_int_3 l its.toArray m k t n2 n1 n3
  refine wpAny_binaryOp_repeat_ref (T := "list") (U := "int") (by decide) lt it
    noFill_list_mul F.fills_int_mul F.slot_int_rmul repeat_list F.slot_int_index.lookup ?_
  refine call_meets F.slot_int_rmul (it s) F.entry_int_rmul (F.args_int_rmul_2 _ _)
    (int___rmul___int_list k t l its.toArray m) ⟨e, rfl, lt, ?_⟩
  refine call_meets F.slot_list_mul lt F.entry_list_mul (F.args_list_mul_2 _ _) step ⟨e, ?_⟩
  rw [n5]
  exact h
theorem or_mul (hK : X.K = T.K) : OpR X (binaryOp .Mult) (fun x y H Q => rP T .mul [x, y] H Q) := by
  intro pins s σ H x y v u Q I rx ry h
  obtain ⟨F, d1, d2, d, p1, -, p2, -, hp, us⟩ := rP2 h
  replace hp : pMul d1 d2 = .ok d := hp
  unfold pMul at hp
  split at hp
  · split at hp
    · rename_i hs
      cases hp
      cases p1.int; cases p2.int
      refine op_mul pins s σ H _ _ v u Q I rx ry ⟨_, _, rfl, rfl, ?_, us.int⟩
      simpa [small, CMul] using hs
    · cases hp
  · rename_i xs n
    split at hp
    · rename_i hs
      cases hp
      cases p2.int
      obtain ⟨a, vs, rfl, e1, r1⟩ := p1
      have l1 := r1.length
      simp only [Bool.and_eq_true, decide_eq_true_eq] at hs
      rw [← hK] at e1
      cases rx
      obtain ⟨t', rfl⟩ := ry
      obtain ⟨its, m, q1, g1, z1⟩ := lstX I e1
      have l3 := q1.length
      have hz : its.length * n.toNat ≤ sizeLine := by rw [← szLine, ← l3, l1]; exact hs.2
      refine rep_at g1 hs.1.1 hs.1.2 hz ?_
      obtain ⟨I2, fr⟩ := newL I (vals_rep q1 n.toNat) (by
        have e2 : (List.replicate n.toNat vs).flatten.length = n.toNat * vs.length := by simp
        rw [e2, Nat.mul_comm, ← szLine, l1]
        exact hs.2)
      exact ⟨.ref _, _, I2, rfl, us.lst rfl (r1.rep n.toNat) _ fr⟩
    · cases hp
  · cases hp
theorem or_fdiv : OpR X (binaryOp .FloorDiv) (fun x y H Q => rP T .fdiv [x, y] H Q) := by
  intro pins s σ H x y v u Q I rx ry h
  obtain ⟨F, d1, d2, d, p1, -, p2, -, hp, us⟩ := rP2 h
  replace hp : pDiv d1 d2 = .ok d := hp
  unfold pDiv at hp
  split at hp
  · split at hp
    · rename_i i j hs
      cases hp
      cases p1.int; cases p2.int
      have hs' : 0 < j ∧ j < 2 ^ 64 := by simpa [divOk] using hs
      refine op_fdivW pins s σ H _ _ v u Q I rx ry ⟨_, _, rfl, rfl, ⟨hs'.1, ?_⟩, us.int⟩
      have h1 : j.natAbs < 2 ^ 64 := by omega
      have h2 : j.natAbs.log2 < 64 := (Nat.log2_lt (by omega)).mpr h1
      omega
    · cases hp
  · cases hp
theorem or_mod : OpR X (binaryOp .Mod) (fun x y H Q => rP T .mod [x, y] H Q) := by
  intro pins s σ H x y v u Q I rx ry h
  obtain ⟨F, d1, d2, d, p1, -, p2, -, hp, us⟩ := rP2 h
  replace hp : pMod d1 d2 = .ok d := hp
  unfold pMod at hp
  split at hp
  · split at hp
    · rename_i i j hs
      cases hp
      cases p1.int; cases p2.int
      exact op_mod pins s σ H _ _ v u Q I rx ry ⟨_, _, rfl, rfl, hs, us.int⟩
    · cases hp
  · cases hp
theorem bits_le (i : Int) : Builtin.Int.intBits i ≤ i.natAbs.log2 + 1 := by
  unfold Builtin.Int.intBits
  split <;> omega
theorem or_pow : OpR X (binaryOp .Pow) (fun x y H Q => rP T .pow [x, y] H Q) := by
  intro pins s σ H x y v u Q I rx ry h
  obtain ⟨F, d1, d2, d, p1, -, p2, -, hp, us⟩ := rP2 h
  replace hp : pPow d1 d2 = .ok d := hp
  unfold pPow at hp
  split at hp
  · split at hp
    · rename_i i j hs
      cases hp
      cases p1.int; cases p2.int
      obtain ⟨t, rfl⟩ := rx
      obtain ⟨t', rfl⟩ := ry
      simp only [Bool.and_eq_true, decide_eq_true_eq] at hs
      obtain ⟨⟨h0, h1⟩, h2⟩ := hs
      refine pow_int h0 ?_ ⟨.int _, H, I.tok _, ⟨_, rfl⟩, us.int⟩
      have hb : Builtin.Int.intBits i ≤ 1000 := by
        have := bits_le i
        by_cases hz : i.natAbs = 0
        · rw [hz] at this
          simp at this
          omega
        · have : i.natAbs.log2 < 1000 := (Nat.log2_lt hz).mpr h2
          omega
      have e1 : (Builtin.Int.intBits i : Int) ≤ 1000 := by exact_mod_cast hb
      have e0 : (0 : Int) ≤ (Builtin.Int.intBits i : Int) := Int.natCast_nonneg _
      calc (Builtin.Int.intBits i : Int) * j ≤ 1000 * 1000 := Int.mul_le_mul e1 h1 h0 (by decide)
        _ ≤ 2 ^ 27 := by decide
    · cases hp
  · cases hp
theorem ur_neg : UnR X (unaryOp .USub) (fun x H Q => rP T .neg [x] H Q) := by
  intro pins s σ H x v Q I rx h
  obtain ⟨F, d1, d, p1, -, hp, us⟩ := rP1 h
  replace hp : pNeg d1 = .ok d := hp
  unfold pNeg at hp
  split at hp
  · cases hp
    cases p1.int
    exact un_neg pins s σ H _ v Q I rx ⟨_, rfl, us.int⟩
  · cases hp
theorem or_cmp {op : CmpOp} {q : Int → Int → Bool} (hq : ∀ a b, primR p [a, b] = pCmp q a b) (r : OpR X (compareOp op) (rI0 fun i j => .bl (q i j))) : OpR X (compareOp op) (fun x y H Q => rP T p [x, y] H Q) := by
  intro pins s σ H x y v u Q I rx ry h
  obtain ⟨F, d1, d2, d, p1, -, p2, -, hp, us⟩ := rP2 h
  rw [hq] at hp
  unfold pCmp at hp
  split at hp
  · cases hp
    cases p1.int; cases p2.int
    exact r pins s σ H _ _ v u Q I rx ry ⟨_, _, rfl, rfl, us.bool⟩
  · cases hp
theorem or_lt : OpR X (compareOp .Lt) (fun x y H Q => rP T .lt [x, y] H Q) := or_cmp (fun _ _ => rfl) op_lt
theorem or_le : OpR X (compareOp .LtE) (fun x y H Q => rP T .le [x, y] H Q) := or_cmp (fun _ _ => rfl) op_le
theorem or_gt : OpR X (compareOp .Gt) (fun x y H Q => rP T .gt [x, y] H Q) := or_cmp (fun _ _ => rfl) op_gt
theorem or_ge : OpR X (compareOp .GtE) (fun x y H Q => rP T .ge [x, y] H Q) := or_cmp (fun _ _ => rfl) op_ge
end
end Fh
end
section
set_option maxRecDepth 100000
set_option maxHeartbeats 2000000
/-! ==, in, repr of whole data. -/
namespace Fh
open PySem PySem.Spec PyProof.Rows L2

section
variable {T : Tb} {X : Cx} {p : Prim} {H : Hp}

mutual
theorem dp_of : ∀ {n : Nat} {d : D} {v : V}, shp n d = true → RD T H v d → Dp T.K H v d.py ∧ d.py.plain = true ∧ d.py.depth ≤ n
  | n, .non, _, _, .non => by simp only [D.py, PyData.plain, PyData.depth]; exact ⟨.non, trivial, Nat.zero_le _⟩
  | n, .bool b, _, _, .bool _ => by simp only [D.py, PyData.plain, PyData.depth]; exact ⟨.bl b, trivial, Nat.zero_le _⟩
  | n, .int b, _, _, .int _ => by simp only [D.py, PyData.plain, PyData.depth]; exact ⟨.int b, trivial, Nat.zero_le _⟩
  | n, .str b, _, h, .str _ => by
    simp only [D.py, PyData.plain, PyData.depth]
    exact ⟨.str b, trivial, Nat.zero_le _⟩
  | n + 1, .list xs, _, h, .list e r => by
    obtain ⟨h1, h2, h3⟩ := dps_of (n := n) (by simpa [shp] using h) r
    simp only [D.py, PyData.plain, PyData.depth]
    exact ⟨.lst e.sq h1, h2, by omega⟩
  | n + 1, .tup xs, _, h, .tup e r => by
    obtain ⟨h1, h2, h3⟩ := dps_of (n := n) (by simpa [shp] using h) r
    simp only [D.py, PyData.plain, PyData.depth]
    exact ⟨.tup e h1, h2, by omega⟩
  | 0, .list xs, _, h, _ => by simp [shp] at h
  | 0, .tup xs, _, h, _ => by simp [shp] at h
  | n, .dict _ _, _, h, _ => by cases n <;> simp [shp] at h
  | n, .fn _, _, h, _ => by cases n <;> simp [shp] at h
  | n, .cls _, _, h, _ => by cases n <;> simp [shp] at h
theorem dps_of : ∀ {n : Nat} {ds : List D} {vs : List V}, shps n ds = true → RDs T H vs ds → DpAll T.K H vs (D.pys ds) ∧ PyData.plainAll (D.pys ds) = true ∧ PyData.depthAll (D.pys ds) ≤ n
  | n, [], _, _, .nil => by simp only [D.pys, PyData.plainAll, PyData.depthAll]; exact ⟨.nil, trivial, Nat.zero_le _⟩
  | n, d :: ds, _, h, .cons r s => by
    have h' : shp n d = true ∧ shps n ds = true := by simpa [shps] using h
    obtain ⟨a1, a2, a3⟩ := dp_of h'.1 r
    obtain ⟨b1, b2, b3⟩ := dps_of h'.2 s
    simp only [D.pys, PyData.plainAll, PyData.depthAll]
    exact ⟨.cons a1 b1, by rw [a2, b2]; rfl, by omega⟩
end
mutual
theorem eqv_py : ∀ {n m : Nat} (a b : D), shp n a = true → shp m b = true → PyData.eqv a.py b.py = eqv a b
  | n, m, .non, b, _, h => by cases b <;> first | (cases m <;> simp [shp] at h; done) | simp [D.py, PyData.eqv, eqv]
  | n, m, .bool _, b, _, h => by cases b <;> first | (cases m <;> simp [shp] at h; done) | simp [D.py, PyData.eqv, eqv]
  | n, m, .int _, b, _, h => by cases b <;> first | (cases m <;> simp [shp] at h; done) | simp [D.py, PyData.eqv, eqv]
  | n, m, .str _, b, _, h => by cases b <;> first | (cases m <;> simp [shp] at h; done) | simp [D.py, PyData.eqv, eqv]
  | n + 1, m, .list xs, b, h, k => by
    cases b with
    | list ys =>
      cases m with
      | zero => simp [shp] at k
      | succ m =>
        have := eqvs_py (n := n) (m := m) xs ys (by simpa [shp] using h) (by simpa [shp] using k)
        simpa [D.py, PyData.eqv, eqv] using this
    | _ => first | (cases m <;> simp [shp] at k; done) | simp [D.py, PyData.eqv, eqv]
  | n + 1, m, .tup xs, b, h, k => by
    cases b with
    | tup ys =>
      cases m with
      | zero => simp [shp] at k
      | succ m =>
        have := eqvs_py (n := n) (m := m) xs ys (by simpa [shp] using h) (by simpa [shp] using k)
        simpa [D.py, PyData.eqv, eqv] using this
    | _ => first | (cases m <;> simp [shp] at k; done) | simp [D.py, PyData.eqv, eqv]
  | 0, _, .list _, _, h, _ => by simp [shp] at h
  | 0, _, .tup _, _, h, _ => by simp [shp] at h
  | n, _, .dict _ _, _, h, _ => by cases n <;> simp [shp] at h
  | n, _, .fn _, _, h, _ => by cases n <;> simp [shp] at h
  | n, _, .cls _, _, h, _ => by cases n <;> simp [shp] at h
theorem eqvs_py : ∀ {n m : Nat} (a b : List D), shps n a = true → shps m b = true → PyData.eqvAll (D.pys a) (D.pys b) = eqvs a b
  | _, _, [], [], _, _ => by simp [D.pys, PyData.eqvAll, eqvs]
  | _, _, [], _ :: _, _, _ => by simp [D.pys, PyData.eqvAll, eqvs]
  | _, _, _ :: _, [], _, _ => by simp [D.pys, PyData.eqvAll, eqvs]
  | n, m, a :: as, b :: bs, h, k => by
    have h' : shp n a = true ∧ shps n as = true := by simpa [shps] using h
    have k' : shp m b = true ∧ shps m bs = true := by simpa [shps] using k
    have e1 := eqv_py a b h'.1 k'.1
    have e2 := eqvs_py as bs h'.2 k'.2
    simp [D.pys, PyData.eqvAll, eqvs, e1, e2]
end

theorem pNot_bool {d : D} {b : Bool} (h : (R.ok (D.bool b)).bind pNot = .ok d) : d = .bool (!b) := by
  simp [pNot, truth] at h
  exact h.symm
theorem or_eq (hK : X.K = T.K) (hu : X.A.units + 64 < cLine) : OpR X (compareOp .Eq) (fun x y H Q => rP T .eq [x, y] H Q) := by
  intro pins s σ H x y v u Q I rx ry h
  obtain ⟨F, d1, d2, d, -, w1, -, w2, hp, us⟩ := rP2 h
  replace hp : pEq d1 d2 = .ok d := hp
  unfold pEq at hp
  split at hp
  · rename_i hs
    cases hp
    simp only [Bool.and_eq_true] at hs
    obtain ⟨as, r1⟩ := Dp.reads I _ _ v (by rw [hK]; exact (dp_of hs.1 w1).1) rx
    obtain ⟨bs, r2⟩ := Dp.reads I _ _ u (by rw [hK]; exact (dp_of hs.2 w2).1) ry
    have hm := Nat.min_le_left d1.py.depth d2.py.depth
    have hn := (dp_of hs.1 w1).2.2
    refine SeqAt.eq_plain r1 r2 (dp_of hs.1 w1).2.1 (dp_of hs.2 w2).2.1 (by omega) ⟨.bl _, H, I, rfl, ?_⟩
    rw [eqv_py d1 d2 hs.1 hs.2]
    exact us.bool
  · cases hp
theorem or_ne (hK : X.K = T.K) (hu : X.A.units + 64 < cLine) : OpR X (compareOp .NotEq) (fun x y H Q => rP T .ne [x, y] H Q) := by
  intro pins s σ H x y v u Q I rx ry h
  obtain ⟨F, d1, d2, d, -, w1, -, w2, hp, us⟩ := rP2 h
  replace hp : (pEq d1 d2).bind pNot = .ok d := hp
  unfold pEq at hp
  split at hp
  · rename_i hs
    obtain rfl := pNot_bool hp
    simp only [Bool.and_eq_true] at hs
    obtain ⟨as, r1⟩ := Dp.reads I _ _ v (by rw [hK]; exact (dp_of hs.1 w1).1) rx
    obtain ⟨bs, r2⟩ := Dp.reads I _ _ u (by rw [hK]; exact (dp_of hs.2 w2).1) ry
    have hm := Nat.min_le_left d1.py.depth d2.py.depth
    have hn := (dp_of hs.1 w1).2.2
    refine SeqAt.ne_plain r1 r2 (dp_of hs.1 w1).2.1 (dp_of hs.2 w2).2.1 (by omega) ⟨.bl _, H, I, rfl, ?_⟩
    rw [eqv_py d1 d2 hs.1 hs.2]
    exact us.bool
  · cases hp
theorem any_py {n m : Nat} {a : D} (ha : shp n a = true) : ∀ {ds : List D}, shps m ds = true → ((D.pys ds).any fun z => PyData.eqv z a.py) = ds.any fun z => eqv z a
  | [], _ => by simp [D.pys]
  | d :: ds, h => by
    have h' : shp m d = true ∧ shps m ds = true := by simpa [shps] using h
    simp only [D.pys, List.any_cons]
    rw [eqv_py d a h'.1 ha, any_py ha h'.2]
/-- in, by the data: whether it is so is told with both signs -/
theorem in_all (hK : X.K = T.K) (hu : X.A.units + 65 < cLine) {pins : List (Addr × Obj)} {s : Shared} {σ : L2.St} {H : Hp} {x y : V} {v u : Value} {d1 d2 : D} {b : Bool} (I : Inv X pins σ H s) (rx : RelV x v) (ry : RelV y u)
    (w1 : RD T H x d1) (w2 : RD T H y d2) (hp : pIn d1 d2 = .ok (.bool b)) {E Q : Value → Shared → Prop} :
    (Q (.bool b) s → wpAny (model X.prog X.w) X.A (compareOp .In v u) Q E s) ∧ (Q (.bool !b) s → wpAny (model X.prog X.w) X.A (compareOp .NotIn v u) Q E s) := by
  unfold pIn at hp
  split at hp
  · split at hp
    · rename_i hs
      simp only [Bool.and_eq_true] at hs
      obtain rfl : _ = b := by simpa using hp
      obtain ⟨as, r1⟩ := Dp.reads I _ _ v (by rw [hK]; exact (dp_of hs.1 w1).1) rx
      obtain ⟨bs, r2⟩ := Dp.reads I _ _ u (by rw [hK]; exact (dp_of hs.2 w2).1) ry
      have c1 := (dp_of hs.1 w1).2
      have c2 := (dp_of hs.2 w2).2
      simp only [D.py, PyData.plain, PyData.depth] at r2 c2
      have e : ((D.pys _).any fun z => PyData.eqv z d1.py) = _ := any_py hs.1 (m := 11) (by simpa [shp] using hs.2)
      have hr : ∀ m : Nat, X.A.units + 1 + min m d1.py.depth < cLine := fun m => by
        have z := Nat.min_le_right m d1.py.depth
        omega
      exact ⟨fun q => SeqAt.in_list_data r2 r1 c2.1 c1.1 (hr _) (by rw [e]; exact q), fun q => SeqAt.notIn_list_data r2 r1 c2.1 c1.1 (hr _) (by rw [e]; exact q)⟩
    · cases hp
  · split at hp
    · rename_i hs
      simp only [Bool.and_eq_true] at hs
      obtain rfl : _ = b := by simpa using hp
      obtain ⟨as, r1⟩ := Dp.reads I _ _ v (by rw [hK]; exact (dp_of hs.1 w1).1) rx
      obtain ⟨bs, r2⟩ := Dp.reads I _ _ u (by rw [hK]; exact (dp_of hs.2 w2).1) ry
      have c1 := (dp_of hs.1 w1).2
      have c2 := (dp_of hs.2 w2).2
      simp only [D.py, PyData.plain, PyData.depth] at r2 c2
      have e : ((D.pys _).any fun z => PyData.eqv z d1.py) = _ := any_py hs.1 (m := 11) (by simpa [shp] using hs.2)
      have hr : ∀ m : Nat, X.A.units + 1 + min m d1.py.depth < cLine := fun m => by
        have z := Nat.min_le_right m d1.py.depth
        omega
      exact ⟨fun q => SeqAt.in_tuple_data r2 r1 c2.1 c1.1 (hr _) (by rw [e]; exact q), fun q => SeqAt.notIn_tuple_data r2 r1 c2.1 c1.1 (hr _) (by rw [e]; exact q)⟩
    · cases hp
  · cases hp
    cases w1; cases w2
    obtain ⟨t, rfl⟩ := rx
    obtain ⟨t', rfl⟩ := ry
    exact ⟨fun q => in_str q, fun q => notIn_str q⟩
  · cases hp
theorem pIn_bool {d1 d2 d : D} (h : pIn d1 d2 = .ok d) : ∃ b, d = .bool b := by
  unfold pIn at h
  split at h
  · split at h
    · cases h; exact ⟨_, rfl⟩
    · cases h
  · split at h
    · cases h; exact ⟨_, rfl⟩
    · cases h
  · cases h; exact ⟨_, rfl⟩
  · cases h
theorem or_in (hK : X.K = T.K) (hu : X.A.units + 65 < cLine) : OpR X (compareOp .In) (fun x y H Q => rP T .isin [x, y] H Q) := by
  intro pins s σ H x y v u Q I rx ry h
  obtain ⟨F, d1, d2, d, -, w1, -, w2, hp, us⟩ := rP2 h
  replace hp : pIn d1 d2 = .ok d := hp
  obtain ⟨b, rfl⟩ := pIn_bool hp
  exact (in_all hK hu I rx ry w1 w2 hp).1 ⟨.bl b, H, I, rfl, us.bool⟩
theorem or_notin (hK : X.K = T.K) (hu : X.A.units + 65 < cLine) : OpR X (compareOp .NotIn) (fun x y H Q => rP T .notin [x, y] H Q) := by
  intro pins s σ H x y v u Q I rx ry h
  obtain ⟨F, d1, d2, d, -, w1, -, w2, hp, us⟩ := rP2 h
  replace hp : (pIn d1 d2).bind pNot = .ok d := hp
  cases e : pIn d1 d2 with
  | bad => rw [e] at hp; cases hp
  | ex => rw [e] at hp; cases hp
  | ok d0 =>
    obtain ⟨b, rfl⟩ := pIn_bool e
    rw [e] at hp
    obtain rfl := pNot_bool hp
    exact (in_all hK hu I rx ry w1 w2 e).2 ⟨.bl _, H, I, rfl, us.bool⟩

/-! ### repr -/
theorem textFrom_le : ∀ (ts : List Str) (k : Nat) (acc : Str), (textFrom k acc ts).length ≤ acc.length + piled ts
  | [], _, acc => by simp [textFrom, piled_nil]
  | t :: ts, k, acc => by
    have h := textFrom_le ts (k + 1) (acc ++ (if k > 0 then ", " else "" : String) ++ t)
    have e : ((if k > 0 then ", " else "" : String) : Str).length ≤ 2 := by split <;> decide
    simp only [textFrom, piled_cons]
    rw [strLen_append, strLen_append] at h
    omega
theorem listText_le (ts : List Str) : (listText ts).length ≤ piled ts + 2 := by
  unfold listText
  rw [strLen_append]
  have h := textFrom_le ts 0 "["
  have e1 : ("[" : Str).length = 1 := by decide
  have e2 : ("]" : Str).length = 1 := by decide
  omega
theorem tupleText_le (ts : List Str) : (tupleText ts).length ≤ piled ts + 3 := by
  unfold tupleText
  rw [strLen_append, strLen_append]
  have e1 : ("(" : Str).length = 1 := by decide
  have e2 : ((if ts.length == 1 then ",)" else ")" : String) : Str).length ≤ 2 := by split <;> decide
  cases ts with
  | nil =>
    have e3 : (Str.join ", " []).length = 0 := by decide
    omega
  | cons t ts =>
    have := join_length_add (t :: ts) (by simp)
    omega
theorem ofS_len (i : Int) : (Str.ofString (toString i)).length = (toString i).length := PySem.ofString_length _
mutual
theorem shown_le : ∀ {n : Nat} (d : D), shp n d = true → wt d ≤ SZ → d.py.showable = true ∧ d.py.shown.length ≤ wt d ∧ d.py.hasDict = false
  | _, .non, _, _ => by simp only [D.py, PyData.showable, PyData.shown, PyData.hasDict, wt]; decide
  | _, .bool b, _, _ => by simp only [D.py, PyData.showable, PyData.shown, PyData.hasDict, wt]; cases b <;> decide
  | _, .int i, _, h => by
    simp only [D.py, PyData.showable, PyData.shown, PyData.hasDict, wt] at h ⊢
    split at h
    · rename_i hl
      rw [if_pos hl]
      refine ⟨by simpa using hl, ?_, trivial⟩
      rw [ofS_len]
      exact int_text_length_le (k := i.natAbs.log2 + 1) (by omega) (by omega)
    · omega
  | _, .str s, _, h => by
    simp only [D.py, PyData.showable, PyData.shown, PyData.hasDict, wt] at h ⊢
    split at h
    case isFalse => omega
    rename_i h'
    rw [if_pos h']
    refine ⟨trivial, StrLaws.reprText_len s fun c hc => ?_, trivial⟩
    unfold PyData.strOk at h'
    rw [← Array.all_toList] at h'
    have := List.all_eq_true.mp h' c hc
    have h2 : c < 0x110000 := by simpa using this
    omega
  | n + 1, .list xs, h, k => by
    simp only [D.py, PyData.showable, PyData.shown, PyData.hasDict, wt] at k ⊢
    obtain ⟨a, b, e⟩ := showns_le (n := n) xs (by simpa [shp] using h) (by omega)
    exact ⟨a, Nat.le_trans (listText_le _) (by omega), e⟩
  | n + 1, .tup xs, h, k => by
    simp only [D.py, PyData.showable, PyData.shown, PyData.hasDict, wt] at k ⊢
    obtain ⟨a, b, e⟩ := showns_le (n := n) xs (by simpa [shp] using h) (by omega)
    exact ⟨a, Nat.le_trans (tupleText_le _) (by omega), e⟩
  | 0, .list _, h, _ => by simp [shp] at h
  | 0, .tup _, h, _ => by simp [shp] at h
  | n, .dict _ _, h, _ => by cases n <;> simp [shp] at h
  | n, .fn _, h, _ => by cases n <;> simp [shp] at h
  | n, .cls _, h, _ => by cases n <;> simp [shp] at h
theorem showns_le : ∀ {n : Nat} (ds : List D), shps n ds = true → wts ds ≤ SZ → PyData.showableAll (D.pys ds) = true ∧ piled (PyData.shownAll (D.pys ds)) ≤ wts ds ∧ PyData.hasDictAll (D.pys ds) = false
  | _, [], _, _ => by simp only [D.pys, PyData.showableAll, PyData.shownAll, PyData.hasDictAll, wts, piled_nil]; decide
  | n, d :: ds, h, k => by
    have h' : shp n d = true ∧ shps n ds = true := by simpa [shps] using h
    simp only [D.pys, PyData.showableAll, PyData.shownAll, PyData.hasDictAll, wts, piled_cons] at k ⊢
    obtain ⟨a1, b1, e1⟩ := shown_le d h'.1 (by omega)
    obtain ⟨a2, b2, e2⟩ := showns_le ds h'.2 (by omega)
    exact ⟨by rw [a1, a2]; rfl, by omega, by rw [e1, e2]; rfl⟩
end
theorem cr_repr (hK : X.K = T.K) (hg : X.A.guards = some []) (hu : X.A.units + 64 < cLine) : CallR X (.builtin "repr") (fun xs H Q => ∃ x, xs = [x] ∧ rP T .repr [x] H Q) := by
  intro pins s σ H xs us0 Q I rxs h
  obtain ⟨x, rfl, h⟩ := h
  obtain ⟨u, rfl, rx⟩ := vals1 rxs
  obtain ⟨F, d1, d, p1, w1, hp, us⟩ := rP1 h
  replace hp : pRepr d1 = .ok d := hp
  have fin : ∀ (h' : Heap) (t : Tok) (tk : Nat) (z : Str), d = .str z → (∀ b o, s.heap.get? b = some o → h'.get? b = some o) → EP X pins σ Q (.str z t) { s with heap := h', toks := tk } := by
    intro h' t tk z e hk
    subst e
    exact ⟨.str z, H, I.kept hk, ⟨_, rfl⟩, us.str⟩
  have same : ∀ b o, s.heap.get? b = some o → s.heap.get? b = some o := fun _ _ e => e
  unfold pRepr at hp
  split at hp
  · cases hp
    obtain ⟨a, kvs, rfl, e1, e2, -⟩ := p1
    obtain rfl : kvs = [] := by cases kvs with
      | nil => rfl
      | cons => simp at e2
    cases rx
    obtain ⟨_, ya, va, ra, o, es, ep, g1, g2, g3, _, g5, _⟩ := (show ObjOk X.prog X.w H s.heap a (.dK []) from I.hok a _ e1)
    have ev : va = [] := by
      unfold KV at ra
      cases ra
      rfl
    subst ev
    have ez : es.toList = [] := by
      have := g5.length
      simpa using this
    have r : Reads s.heap (.ref a) (.dict []) (a :: [] ++ []) := .dict g1 g2.1 g3 (by rw [ez]; exact .nil) (by rw [ez]; exact .nil)
    refine repr_of_reads' r (by simp [PyData.showable, PyData.showableKv]) (fun _ hm => ?_) hg (by simp only [PyData.depth, PyData.depthKv]; omega) same (fun h' u tk hk => fin h' u tk _ rfl hk) (by decide)
    have : sysModules = a := by simpa using hm
    rw [← this] at ya
    simp at ya
  · split at hp
    · rename_i hs
      simp only [Bool.and_eq_true, decide_eq_true_eq] at hs
      cases hp
      obtain ⟨b1, b2, b3⟩ := shown_le d1 hs.1 hs.2
      have hz : d1.py.shown.length ≤ sizeLine := by rw [← szLine]; exact Nat.le_trans b2 hs.2
      have dp := dp_of hs.1 w1
      cases x with
      | ref a =>
        cases rx
        obtain ⟨as, r⟩ := Dp.reads I _ (.ref a) _ (by rw [hK]; exact dp.1) rfl
        have hd := dp.2.2
        exact repr_of_reads' r b1 (PyData.noDict_hsm b3) hg (by omega) same (fun h' u tk hk => fin h' u tk _ rfl hk) hz
      | non =>
        cases w1
        cases rx
        exact PySem.P.repr_of_none (fin s.heap _ _ _ rfl same)
      | bl b =>
        cases w1
        cases rx
        exact PySem.P.repr_of_bool (fin s.heap _ _ _ rfl same)
      | int i =>
        cases w1
        obtain ⟨t, rfl⟩ := rx
        refine PySem.P.repr_of_int ?_ (fin s.heap _ _ _ rfl same)
        simpa [D.py, PyData.showable] using b1
      | str z =>
        cases w1
        obtain ⟨t, rfl⟩ := rx
        exact PySem.P.repr_of_str (fin s.heap _ _ _ rfl same) hz
      | byt => cases w1
      | flt => cases w1
      | ty => cases w1
    · cases hp
end
end Fh
end
section
set_option maxRecDepth 100000
set_option maxHeartbeats 2000000
/-! sum(lists, []). -/
namespace PySem
open Sem (wp)
section
variable {prog : Program} {w : World} {A : Around} {R : Result → Shared → Prop} {I : Addr} {fp wr : List Addr} {n : Nat} {P : Nat → Value → Prop} {St : Nat → Heap → Prop}

theorem sum2_loop (W : Walks prog w A.in1 I fp wr n P St) (bs : List Addr) (us : List (List Value)) (hP : ∀ i v, P i v → ∃ b, bs[i]? = some b ∧ v = .ref b) (hlen : us.length = n) (hsz : us.flatten.length ≤ sizeLine) (S : Addr) (hSf : S ∉ fp) (hSb : S ∉ bs) (hbw : ∀ b ∈ bs, b ∉ wr) (hw : ∀ i h, St i h → ∀ b ∈ wr, ∃ o, h.get? b = some o) :
    ∀ (k i : Nat) (s : Shared) (t c m : Nat), n - i = k → i ≤ n → St i s.heap → s.heap.get? S = some { cls := .type "list", dict := none, data := .seq #[.ref t] c, slots := #[] } →
    s.heap.get? t = some { cls := .type "list", data := .seq (us.take i).flatten.toArray m } → t ∉ wr → t ≠ S →
    (∀ (j : Nat) (b : Addr) (its : List Value), bs[j]? = some b → us[j]? = some its → ∃ m, s.heap.get? b = some { cls := .type "list", data := .seq its.toArray m }) →
    (∀ (h' : Heap) (tk : Nat) (t' m' : Nat), (∀ b o, b ∉ wr → b ≠ S → s.heap.get? b = some o → h'.get? b = some o) → h'.get? t' = some { cls := .type "list", data := .seq us.flatten.toArray m' } → (t' = t ∧ i = n ∨ S < t') → R (.ok (.ret (.ref t'))) { s with heap := h', toks := tk }) →
    codeAny (model prog w) A (.builtin "sum.loop" ⟨[.ref I, .ref S, rawInt 2, rawInt 0], []⟩) R s := by
  have hSw : S ∉ wr := fun h => hSf (W.sub _ h)
  intro k
  induction k with
  | zero =>
    intro i s t c m hk hi hst hS ht htw htS hbs hR
    have hin : i = n := by omega
    subst hin
    refine codeAny_builtin F.entry_sum_loop ?_
    rw [Around.under_plainId F.plain_sum_loop _]
    show wpAny _ A.in1 (seqItems? (.ref S) >>= _) _ _ s
    refine wpAny_bind (wpAny_seqItems hS rfl ?_)
    show wpAny _ A.in1 (tryCatch (pyNext (.ref I)) _ >>= _) _ _ s
    refine wpAny_bind (wpAny_tryCatch (W.done s _ _ hst fun h' tk hk' => ?_))
    refine wpAny_pure (hR h' tk t m (fun b o hb _ e => hk' b o hb e) ?_ (.inl ⟨rfl, rfl⟩))
    have := hk' t _ htw ht
    rw [List.take_of_length_le (by omega)] at this
    exact this
  | succ k ih =>
    intro i s t c m hk hi hst hS ht htw htS hbs hR
    have hlt : i < n := by omega
    refine codeAny_builtin F.entry_sum_loop ?_
    rw [Around.under_plainId F.plain_sum_loop _]
    show wpAny _ A.in1 (seqItems? (.ref S) >>= _) _ _ s
    refine wpAny_bind (wpAny_seqItems hS rfl ?_)
    show wpAny _ A.in1 (tryCatch (pyNext (.ref I)) _ >>= _) _ _ s
    refine wpAny_bind (wpAny_tryCatch (W.item i s _ _ hlt hst fun v h' tk hp hst' hk' => ?_))
    obtain ⟨b, hb, rfl⟩ := hP i v hp
    obtain ⟨its, hits⟩ : ∃ its, us[i]? = some its := ⟨us[i]'(by omega), by simp [show i < us.length by omega]⟩
    obtain ⟨mb, hb0⟩ := hbs i b its hb hits
    have hS1 := hk' S _ hSw hS
    have ht1 := hk' t _ htw ht
    have hb1 := hk' b _ (hbw b (List.mem_of_getElem? hb)) hb0
    have htake : (us.take (i + 1)).flatten = (us.take i).flatten ++ its := by
      rw [List.take_add_one, hits]; simp
    have hpre : (us.take (i + 1)).flatten.length ≤ sizeLine := by
      refine Nat.le_trans ?_ hsz
      conv => rhs; rw [← List.take_append_drop (i + 1) us]
      rw [List.flatten_append, List.length_append]; omega
    have hz2 : (us.take i).flatten.toArray.size + its.toArray.size ≤ sizeLine := by
      rw [htake, List.length_append] at hpre
      simpa using hpre
    show wpAny _ A.in1 ((holding [.ref b] (binaryOp .Add (.ref t) (.ref b))).attempt >>= _) _ _ _
    refine wpAny_bind (wpAny_attempt (wpAny_holding (PySem.P.add_list ht1 hb1 ?_ hz2)))
    have hS2 : (h'.push { cls := .type "list", data := .seq ((us.take i).flatten.toArray ++ its.toArray) }).get? S = some { cls := .type "list", dict := none, data := .seq #[.ref t] c, slots := #[] } := Heap.get?_push_of_some _ hS1
    show wpAny _ A.in1 (updateSeq S (fun _ => #[.ref h'.objs.size]) >>= _) _ _ _
    refine wpAny_bind (wpAny_updateSeq hS2 rfl ?_)
    refine wpAny_bind (wpAny_letGo ?_)
    show wpAny _ A.in1 (updateSeq S (fun _ => #[.ref h'.objs.size]) >>= _) _ _ _
    have hS3 := Heap.get?_update_self (Obj.mapSeq fun _ => #[Value.ref h'.objs.size]) hS2 rfl
    refine wpAny_bind (wpAny_updateSeq hS3 rfl (wpAny_pure ⟨plainId_quiet F.plain_sum_loop _, ?_⟩))
    generalize hh3 : ((h'.push { cls := .type "list", data := .seq ((us.take i).flatten.toArray ++ its.toArray) }).update S (Obj.mapSeq fun _ => #[Value.ref h'.objs.size])).update S (Obj.mapSeq fun _ => #[Value.ref h'.objs.size]) = h3
    have keep : ∀ a o, a ≠ S → (h'.push { cls := .type "list", data := .seq ((us.take i).flatten.toArray ++ its.toArray) }).get? a = some o → h3.get? a = some o := fun a o ne e => by
      rw [← hh3]
      exact (Heap.get?_update_other _ _ (Ne.symm ne)).trans ((Heap.get?_update_other _ _ (Ne.symm ne)).trans e)
    have keep1 : ∀ a o, a ≠ S → h'.get? a = some o → h3.get? a = some o := fun a o ne e => keep a o ne (Heap.get?_push_of_some _ e)
    have pS : h'.objs.size ≠ S := fun e => absurd (Heap.lt_size hS1) (by rw [← e]; exact Nat.lt_irrefl _)
    have st3 : St (i + 1) h3 := W.frame _ _ _ hst' fun a ha o e => keep1 a o (fun z => hSf (z ▸ ha)) e
    have pw : h'.objs.size ∉ wr := fun z => by
      obtain ⟨o, e⟩ := hw _ _ hst' _ z
      exact Nat.lt_irrefl _ (Heap.lt_size e)
    have pnew : S < h'.objs.size := Heap.lt_size hS1
    have et : (us.take i).flatten.toArray ++ its.toArray = (us.take (i + 1)).flatten.toArray := by rw [htake]; simp
    refine ih (i + 1) _ h'.objs.size c 0 (by omega) hlt st3 ?_ ?_ pw pS ?_ ?_
    · show h3.get? S = _
      rw [← hh3]
      exact Heap.get?_update_self _ hS3 rfl
    · show h3.get? _ = _
      refine keep _ _ pS ?_
      rw [← et]
      exact Heap.get?_push_size _ rfl
    · intro j a its' h1 h2
      obtain ⟨m', e⟩ := hbs j a its' h1 h2
      exact ⟨m', keep1 a _ (fun z => hSb (z ▸ List.mem_of_getElem? h1)) (hk' a _ (hbw a (List.mem_of_getElem? h1)) e)⟩
    · intro h'' tk' t' m' hk'' ht' hn
      refine hR h'' tk' t' m' (fun a o haw haS e => hk'' a o haw haS (keep1 a o haS (hk' a o haw e))) ht' (.inr ?_)
      rcases hn with ⟨rfl, _⟩ | hn
      · exact pnew
      · exact hn
end
theorem sub_list_str' : isSubtype (.type "list") (.type "str") = pure false := by rw [isSubtype_type]; kernel_rfl
theorem sub_list_bytes' : isSubtype (.type "list") (.type "bytes") = pure false := by rw [isSubtype_type]; kernel_rfl
theorem sub_list_bytearray' : isSubtype (.type "list") (.type "bytearray") = pure false := by rw [isSubtype_type]; kernel_rfl
theorem args_sum2' (a b : Value) : argsOk "sum" ⟨[a, b], []⟩ := by unfold argsOk; kernel_rfl
section
variable {prog : Program} {w : World} {A : Around} {E : Value → Shared → Prop} {s : Shared}
theorem sum2_raw {l t m0 : Nat} {bs : List Addr} {us : List (List Value)} {Q : Value → Shared → Prop} (hh : A.handled = none) (hl : s.heap.IsList l (bs.map Value.ref).toArray) (ht : s.heap.get? t = some { cls := .type "list", data := .seq #[] m0 }) (hlen : us.length = bs.length) (hne : bs ≠ []) (hsz : us.flatten.length ≤ sizeLine)
    (hbs : ∀ (j : Nat) (b : Addr) (its : List Value), bs[j]? = some b → us[j]? = some its → ∃ m, s.heap.get? b = some { cls := .type "list", data := .seq its.toArray m })
    (hQ : ∀ (h' : Heap) (tk : Nat) (t' m' : Nat), (∀ b o, s.heap.get? b = some o → h'.get? b = some o) → h'.get? t' = some { cls := .type "list", data := .seq us.flatten.toArray m' } → s.heap.objs.size ≤ t' → Q (.ref t') { s with heap := h', toks := tk }) :
    wpAny (model prog w) A (call (.builtin "sum") [.ref l, .ref t]) Q E s := by
  refine call_function_tree F.kind_sum F.plain_sum F.entry_sum (args_sum2' _ _) ?_
  unfold Builtin.«sum»
  simp only [List.length_cons, List.length_nil]
  rw [if_neg (by decide)]
  refine wpAny_bind (wpAny_of_eq (show Builtin.Builtins.bindParams "sum" ["start"] 0 ⟨[.ref t], []⟩ = pure [some (.ref t)] from rfl) ?_)
  refine wpAny_bind (wpAny_pyIter_list hl ?_)
  refine wpAny_bind (wpAny_pure ?_)
  have hI : (s.heap.push { cls := .type "list_iterator", data := .fields #[.ref l, rawInt 0] }).get? t = some { cls := .type "list", data := .seq #[] m0 } := Heap.get?_push_of_some _ ht
  simp only [List.forIn_cons, List.forIn_nil]
  refine wpAny_bind (wpAny_bind (wpAny_bind (wpAny_isInstance (T := "list") (b := false) ⟨_, hI, rfl⟩ sub_list_str' ?_)))
  simp only [Bool.false_eq_true, if_false]
  refine wpAny_pure (wpAny_bind (wpAny_bind (wpAny_isInstance (T := "list") (b := false) ⟨_, hI, rfl⟩ sub_list_bytes' ?_)))
  simp only [Bool.false_eq_true, if_false]
  refine wpAny_pure (wpAny_bind (wpAny_bind (wpAny_isInstance (T := "list") (b := false) ⟨_, hI, rfl⟩ sub_list_bytearray' ?_)))
  simp only [Bool.false_eq_true, if_false]
  refine wpAny_pure (wpAny_pure ?_)
  refine wpAny_bind (wpAny_newObj_type ?_)
  have lt : ∀ {b o}, s.heap.get? b = some o → b < s.heap.objs.size := fun e => Heap.lt_size e
  obtain ⟨ol, hlo⟩ : ∃ o, s.heap.get? l = some o := by obtain ⟨o, e, _⟩ := hl; exact ⟨o, e⟩
  have push2 : ∀ {b o}, s.heap.get? b = some o → ((s.heap.push { cls := .type "list_iterator", data := .fields #[.ref l, rawInt 0] }).push { cls := .type "list", data := .seq [Value.ref t].toArray }).get? b = some o := fun e => Heap.get?_push_of_some _ (Heap.get?_push_of_some _ e)
  have sz1 : (s.heap.push { cls := .type "list_iterator", data := .fields #[.ref l, rawInt 0] }).objs.size = s.heap.objs.size + 1 := Heap.size_push _ _
  have ltb : ∀ b ∈ bs, b < s.heap.objs.size := fun b m => by
    obtain ⟨j, hj⟩ := List.mem_iff_getElem?.mp m
    have hjl : j < us.length := by rw [hlen]; exact (List.getElem?_eq_some_iff.mp hj).1
    obtain ⟨mm, e⟩ := hbs j b us[j] hj (by simp [hjl])
    exact lt e
  have hn : (bs.map Value.ref).toArray.size = bs.length := by simp
  refine wpAny_pure ⟨plainId_quiet F.plain_sum_loop _, sum2_loop (Walks.list (A := A.in1) hh s.heap.objs.size l (Nat.ne_of_lt (lt hlo)) (bs.map Value.ref).toArray) bs us (fun i v hv => ?_) (by rw [hn, hlen]) hsz (s.heap.push { cls := .type "list_iterator", data := .fields #[.ref l, rawInt 0] }).objs.size ?_ ?_ ?_ ?_ _ 0 _ t 0 m0 rfl (Nat.zero_le _) ⟨?_, ?_⟩ (Heap.get?_push_size _ rfl) ?_ ?_ ?_ ?_ ?_⟩
  · have hv : (bs.map Value.ref)[i]? = some v := by simpa using hv
    rw [List.getElem?_map] at hv
    cases e : bs[i]? with
    | none => rw [e] at hv; cases hv
    | some b => rw [e] at hv; cases hv; exact ⟨b, rfl, rfl⟩
  · intro z
    rcases List.mem_cons.mp z with z | z
    · exact Nat.succ_ne_self _ (sz1.symm.trans z)
    · have : (s.heap.push { cls := .type "list_iterator", data := .fields #[.ref l, rawInt 0] }).objs.size = l := by simpa using z
      exact absurd (lt hlo) (by rw [← this, sz1]; exact Nat.not_lt.mpr (Nat.le_succ _))
  · intro z
    exact absurd (ltb _ z) (by rw [sz1]; exact Nat.not_lt.mpr (Nat.le_succ _))
  · intro b m z
    have z : b = s.heap.objs.size := by simpa using z
    exact absurd (ltb b m) (by rw [z]; exact Nat.lt_irrefl _)
  · intro i h st b m
    have z : b = s.heap.objs.size := by simpa using m
    subst z
    obtain ⟨o, e, _⟩ := st.1
    exact ⟨o, e⟩
  · exact ⟨_, Heap.get?_push_of_some _ (Heap.get?_push_size _ rfl), rfl, rfl⟩
  · obtain ⟨o, e, r⟩ := hl
    exact ⟨o, push2 e, r⟩
  · exact push2 ht
  · intro z
    have z : t = s.heap.objs.size := by simpa using z
    exact absurd (lt ht) (by rw [z]; exact Nat.lt_irrefl _)
  · intro z
    exact absurd (lt ht) (by rw [z, sz1]; exact Nat.not_lt.mpr (Nat.le_succ _))
  · intro j b its h1 h2
    obtain ⟨m, e⟩ := hbs j b its h1 h2
    exact ⟨m, push2 e⟩
  · intro h' tk t' m' hk ht' hn'
    refine hQ h' tk t' m' (fun b o e => hk b o (fun z => ?_) (fun z => ?_) (push2 e)) ht' ?_
    · have z : b = s.heap.objs.size := by simpa using z
      exact absurd (lt e) (by rw [z]; exact Nat.lt_irrefl _)
    · exact absurd (lt e) (by rw [z, sz1]; exact Nat.not_lt.mpr (Nat.le_succ _))
    · rcases hn' with ⟨_, z⟩ | z
      · exfalso
        rw [hn] at z
        exact hne (List.length_eq_zero_iff.mp z.symm)
      · rw [sz1] at z
        exact Nat.le_of_lt (Nat.lt_of_succ_lt z)
end
end PySem
namespace Fh
open PySem PySem.Spec PyProof.Rows L2
section
variable {T : Tb} {X : Cx} {F H : Hp}
theorem lists_of (h0 : Le F H) : ∀ {ds : List D} {yss : List (List D)} {vs : List V}, RDs T F vs ds → listsOf ds = some yss → ∃ (bs : List Addr) (vss : List (List V)), vs = bs.map V.ref ∧ vss.length = bs.length ∧
    (∀ (j : Nat) (b : Addr) (ws : List V), bs[j]? = some b → vss[j]? = some ws → LL T.K H b ws) ∧ RDs T F vss.flatten yss.flatten
  | _, _, _, .nil, h => by
    cases h
    exact ⟨[], [], rfl, rfl, fun j b ws e => by simp at e, .nil⟩
  | _, _, _, .cons (d := d) r rs, h => by
    cases d <;> first | (cases h; done) | skip
    rename_i xs
    unfold listsOf at h
    cases e : listsOf _ with
    | none => rw [e] at h; cases h
    | some zss =>
      rw [e] at h
      cases h
      obtain ⟨bs, vss, h1, h2, h3, h4⟩ := lists_of h0 rs e
      cases r with
      | @list a ws _ hl hr =>
        refine ⟨a :: bs, ws :: vss, by simp [h1], by simp [h2], fun j b us e1 e2 => ?_, ?_⟩
        · cases j with
          | zero => simp at e1 e2; subst e1; subst e2; exact LL.le h0 hl
          | succ j => exact h3 j b us (by simpa using e1) (by simpa using e2)
        · simp only [List.flatten_cons]
          exact hr.append h4
theorem vals_refs : ∀ {bs : List Addr} {us : List Value}, Vals (bs.map V.ref) us → us = bs.map Value.ref
  | [], _, .nil => rfl
  | b :: bs, _, .cons r rs => by
    cases r
    rw [vals_refs rs]; rfl
/-- the objects of several lists -/
theorem objs_of {pins : List (Addr × Obj)} {σ : L2.St} {s : Shared} (I : Inv X pins σ H s) : ∀ {bs : List Addr} {vss : List (List V)}, vss.length = bs.length → (∀ (j : Nat) (b : Addr) (ws : List V), bs[j]? = some b → vss[j]? = some ws → LL X.K H b ws) →
    ∃ us : List (List Value), us.length = bs.length ∧ Vals vss.flatten us.flatten ∧ ∀ (j : Nat) (b : Addr) (its : List Value), bs[j]? = some b → us[j]? = some its → ∃ m, s.heap.get? b = some { cls := .type "list", data := .seq its.toArray m }
  | [], [], _, _ => ⟨[], rfl, .nil, fun j b its e => by simp at e⟩
  | b :: bs, vs :: vss, hl, h => by
    obtain ⟨us, h1, h2, h3⟩ := objs_of I (bs := bs) (vss := vss) (by simpa using hl) fun j b ws e1 e2 => h (j + 1) b ws (by simpa using e1) (by simpa using e2)
    obtain ⟨its, n, q1, g1, z1⟩ := lstX I (h 0 b vs rfl rfl)
    refine ⟨its :: us, by simp [h1], by simp only [List.flatten_cons]; exact q1.append h2, fun j b' its' e1 e2 => ?_⟩
    cases j with
    | zero => simp at e1 e2; subst e1; subst e2; exact ⟨n, g1⟩
    | succ j => exact h3 j b' its' (by simpa using e1) (by simpa using e2)
  | [], _ :: _, hl, _ => by simp at hl
  | _ :: _, [], hl, _ => by simp at hl
theorem cr_sum2 (hK : X.K = T.K) (hc : X.calm = true) : CallR X (.builtin "sum") (fun vs H Q => ∃ x y, vs = [x, y] ∧ rP T .sum2 [x, y] H Q) := by
  rintro pins s σ H xs us Q I rv ⟨x, y, rfl, h⟩
  obtain ⟨F, d1, d2, d, p1, -, p2, -, hp, ue⟩ := rP2 h
  replace hp : pSum2 d1 d2 = .ok d := hp
  unfold pSum2 at hp
  split at hp
  · rename_i d0 ds
    cases e : listsOf (d0 :: ds) with
    | none => rw [e] at hp; cases hp
    | some yss =>
      rw [e] at hp
      dsimp only at hp
      split at hp
      · rename_i hz
        cases hp
        obtain ⟨a, vs, rfl, e1, r1⟩ := p1
        obtain ⟨b, ws, rfl, e2, r2⟩ := p2
        cases r2
        obtain ⟨bs, vss, rfl, hl, hall, rall⟩ := lists_of ue.le r1 e
        rw [← hK] at e1 e2
        rw [← hK] at hall
        match us, rv with
        | [_, _], .cons ra (.cons rb .nil) =>
          cases ra
          cases rb
          obtain ⟨its, n, q1, g1, z1⟩ := lstX I e1
          obtain ⟨its2, n2, q2, g2, z2⟩ := lstX I e2
          obtain rfl := vals_refs q1
          cases q2
          obtain ⟨uss, k1, k2, k3⟩ := objs_of I hl hall
          have hn : bs ≠ [] := fun z => by
            subst z
            have := r1.length
            simp at this
          have hsz : uss.flatten.length ≤ sizeLine := by
            rw [← k2.length, rall.length, ← szLine]; exact hz
          refine sum2_raw (I.ok.hd hc) ?_ g2 k1 hn hsz k3 fun h' tk p m hk hpp hge => ?_
          · exact ⟨_, g1, rfl, n, rfl⟩
          · have I2 : Inv X pins σ (upd H p (.lst vss.flatten)) { s with heap := h', toks := tk } := I.laid hk hge ⟨by rw [k2.length]; exact hsz, uss.flatten, m, k2, hpp⟩
            exact ⟨.ref p, _, I2, rfl, ue.lst rfl rall p (I.hok.fresh hge)⟩
      · cases hp
  · cases hp
end
end Fh
end
section
set_option maxRecDepth 100000
set_option maxHeartbeats 2000000
/-! is, not, places, parts, len, least and greatest, sums, sorted, all, any, list, tuple, int, isinstance. -/
namespace Fh
open PySem PySem.Spec PyProof.Rows L2

section
variable {T : Tb} {X : Cx} {p : Prim} {F H : Hp}
theorem is_true_gen {M : Model} {A : Around} {E Q : Value → Shared → Prop} {s : Shared} {x : V} {v : Value} {b : Bool} (r : RelV x v) (h : Q (.bool (v == .bool b)) s) : wpAny M A (compareOp .Is v (.bool b)) Q E s := by
  cases x <;> first | (cases r; exact wpAny_pure h) | (obtain ⟨t, rfl⟩ := r; exact wpAny_pure h)
theorem isnot_true_gen {M : Model} {A : Around} {E Q : Value → Shared → Prop} {s : Shared} {x : V} {v : Value} {b : Bool} (r : RelV x v) (h : Q (.bool (!(v == .bool b))) s) : wpAny M A (compareOp .IsNot v (.bool b)) Q E s := by
  cases x <;> first | (cases r; exact wpAny_pure h) | (obtain ⟨t, rfl⟩ := r; exact wpAny_pure h)
theorem rel_non {x : V} {d : D} {v : Value} (w : RD T H x d) (r : RelV x v) : (v == Value.none) = isNon d := by
  rw [r.none_iff]
  cases w <;> simp [isNon]
theorem rel_bool {x : V} {d : D} {v : Value} {b : Bool} (w : RD T H x d) (r : RelV x v) : (v == Value.bool b) = isB b d := by
  cases w with
  | non => cases r; rfl
  | bool c => cases r; show (Value.bool c == Value.bool b) = (c == b); cases b <;> cases c <;> rfl
  | int => obtain ⟨t, rfl⟩ := r; rfl
  | str => obtain ⟨t, rfl⟩ := r; rfl
  | list => cases r; rfl
  | tup => cases r; rfl
  | dict => cases r; rfl
  | fn => cases r; rfl
  | cls => cases r; rfl
theorem or_is : OpR X (compareOp .Is) (fun x y H Q => rP T .isq [x, y] H Q) := by
  intro pins s σ H x y v u Q I rx ry h
  obtain ⟨F, d1, d2, d, -, w1, -, w2, hp, us⟩ := rP2 h
  replace hp : pIs d1 d2 = .ok d := hp
  unfold pIs at hp
  split at hp
  · cases hp
    cases w2; cases ry
    exact is_none_gen ⟨.bl _, H, I, by rw [rel_non w1 rx]; rfl, us.bool⟩
  · cases hp
    cases w2; cases ry
    exact is_true_gen rx ⟨.bl _, H, I, by rw [rel_bool w1 rx]; rfl, us.bool⟩
  · cases hp
theorem or_isnot : OpR X (compareOp .IsNot) (fun x y H Q => rP T .isnot [x, y] H Q) := by
  intro pins s σ H x y v u Q I rx ry h
  obtain ⟨F, d1, d2, d, -, w1, -, w2, hp, us⟩ := rP2 h
  replace hp : (pIs d1 d2).bind pNot = .ok d := hp
  unfold pIs at hp
  split at hp
  · obtain rfl := pNot_bool hp
    cases w2; cases ry
    exact isnot_none_gen ⟨.bl _, H, I, by rw [rel_non w1 rx]; rfl, us.bool⟩
  · obtain rfl := pNot_bool hp
    cases w2; cases ry
    exact isnot_true_gen rx ⟨.bl _, H, I, by rw [rel_bool w1 rx]; rfl, us.bool⟩
  · cases hp

/-! ### truth -/
theorem tru_of {x : V} {d : D} {b : Bool} (q : Part T F H x d) (h : truth d = .ok b) : TruV T.K x H b := by
  cases d with
  | non => cases q.non; cases h; rfl
  | bool c => cases q.bool; cases h; rfl
  | int i => cases q.int; cases h; rfl
  | str s =>
    cases q.str
    replace h : (if s.length < SZ then R.ok (s.length != 0) else R.bad) = R.ok b := h
    split at h
    · rename_i hz
      cases h
      refine ⟨by rw [← szLine]; omega, ?_⟩
      rw [Bool.eq_iff_iff]
      simp only [bne_iff_ne, ne_eq]
      omega
    · cases h
  | list xs =>
    obtain ⟨a, vs, rfl, e, r⟩ := q
    cases h
    refine .inl ⟨vs, e.sq, ?_⟩
    cases r <;> rfl
  | tup xs =>
    obtain ⟨a, vs, rfl, e, r⟩ := q
    cases h
    refine .inr (.inl ⟨vs, e, ?_⟩)
    cases r <;> rfl
  | dict => cases h
  | fn => cases h
  | cls => cases h
theorem un_notT (hK : X.K = T.K) {e : Expr} {ta : TE} {pos : Pos} (ha : PE X e ta) : PE X (.UnaryOp .Not e pos) (tUn (fun x H Q => rP T .not [x] H Q) ta) := by
  have z := pe_notT (pos := pos) ha
  refine ⟨fun pins s σ H Q I q => ?_⟩
  refine UnaryOp_ (thn (ha.run pins s σ H _ I q) fun v s1 ⟨x, H1, I1, r1, q1⟩ => ?_)
  obtain ⟨F, d1, d, p1, -, hp, us⟩ := rP1 q1
  replace hp : pNot d1 = .ok d := hp
  unfold pNot at hp
  obtain ⟨b, hb, hp⟩ := R.bind_eq_ok hp
  cases hp
  refine not_of (thn (tru_ok pins s1 σ H1 x v (fun c H2 => c = b ∧ H2 = H1) I1 r1 ⟨b, by rw [hK]; exact tru_of p1 hb, rfl, rfl⟩) fun c s2 ⟨H2, I2, e1, e2⟩ => ?_)
  subst e1 e2
  exact ⟨.bl _, _, I2, rfl, us.bool⟩

/-! ### places and parts -/
theorem at_eq {xs : List V} {i : Int} {v : V} : at? xs i = some v → atI xs i = some v := by
  intro h
  unfold at? at h
  unfold atI ixN
  split at h
  · rename_i h0
    rw [if_pos h0]
    have hl := (List.getElem?_eq_some_iff.mp h).1
    rw [if_pos (by omega)]
    exact h
  · rename_i h0
    rw [if_neg h0]
    split at h
    · rename_i h1
      rw [if_pos h1]
      exact h
    · cases h
theorem RDs.at {vs : List V} {ds : List D} {i : Int} {d : D} (r : RDs T F vs ds) (h : at? ds i = some d) : ∃ v, at? vs i = some v ∧ RD T F v d := by
  unfold at? at h ⊢
  rw [r.length]
  split at h
  · rename_i h0
    rw [if_pos h0]
    exact r.get h
  · rename_i h0
    rw [if_neg h0]
    split at h
    · rename_i h1
      rw [if_pos h1]
      exact r.get h
    · cases h
theorem ir_idx (hK : X.K = T.K) : IxR X (fun x y H Q => rP T .idx [x, y] H Q) := by
  intro val sl pins s σ H x y v u Q I rx ry h hs
  obtain ⟨F, d1, d2, d, p1, -, p2, -, hp, us⟩ := rP2 h
  replace hp : pIdx d1 d2 = .ok d := hp
  unfold pIdx at hp
  split at hp
  · split at hp
    · rename_i e
      cases hp
      cases p2.int
      obtain ⟨a, vs, rfl, e1, r1⟩ := p1
      obtain ⟨w, e2, e3⟩ := r1.at e
      exact ix_list val sl pins s σ H _ _ v u Q I rx ry ⟨a, vs, _, w, rfl, rfl, by rw [hK]; exact e1.sq, at_eq e2, us.old rfl e3⟩ hs
    · cases hp
  · split at hp
    · rename_i e
      cases hp
      cases p2.int
      obtain ⟨a, vs, rfl, e1, r1⟩ := p1
      obtain ⟨w, e2, e3⟩ := r1.at e
      exact ix_tup val sl pins s σ H _ _ v u Q I rx ry ⟨a, vs, _, w, rfl, rfl, by rw [hK]; exact e1, at_eq e2, us.old rfl e3⟩ hs
    · cases hp
  · split at hp
    · rename_i hz
      split at hp
      · rename_i e
        cases hp
        cases p2.int
        cases p1.str
        refine ix_str val sl pins s σ H _ _ v u Q I rx ry ⟨_, _, _, rfl, rfl, by rw [← szLine]; exact hz, ?_, us.old rfl (.str _)⟩ hs
        unfold at? at e
        unfold atI ixN
        split at e
        · rename_i h0
          rw [if_pos h0]
          have hl := (List.getElem?_eq_some_iff.mp e).1
          rw [if_pos (by omega)]
          exact e
        · rename_i h0
          rw [if_neg h0]
          split at e
          · rename_i h1
            rw [if_pos h1]
            exact e
          · cases e
      · cases hp
    · cases hp
  · cases hp
theorem RDs.cut {vs : List V} {ds : List D} {lo hi : Option Int} (r : RDs T F vs ds) : RDs T F (cutV vs lo hi) (Fh.cut ds lo hi) := by
  unfold cutV Fh.cut
  rw [r.length]
  exact (r.drop _).take _
theorem sl_one (hK : X.K = T.K) {pins : List (Addr × Obj)} {s : Shared} {σ : L2.St} {H : Hp} {x : V} {d1 d : D} {lo hi : Option Int} {Q : VK} (p1 : Part T F H x d1) (hp : pSl lo hi d1 = .ok d) (us : Use T p F H Q d) (hl : p.lv = 1) :
    rSlL X.K x lo hi H Q ∨ rSlT X.K x lo hi H Q ∨ rSlS x lo hi H Q := by
  unfold pSl at hp
  split at hp
  · cases hp
    obtain ⟨a, vs, rfl, e1, r1⟩ := p1
    exact .inl ⟨a, vs, rfl, by rw [hK]; exact e1.sq, us.lst hl r1.cut⟩
  · split at hp
    · rename_i hz
      cases hp
      cases p1.str
      exact .inr (.inr ⟨_, rfl, by rw [← szLine]; exact hz, us.str⟩)
    · cases hp
  · split at hp
    · cases hp
    · rename_i hn
      cases hp
      obtain ⟨a, vs, rfl, e1, r1⟩ := p1
      exact .inr (.inl ⟨a, vs, rfl, by rw [hK]; exact e1, by rw [r1.length]; exact hn, us.tup hl r1.cut⟩)
  · cases hp
theorem sl_any : SlR X (fun x lo hi H Q => rSlL X.K x lo hi H Q ∨ rSlT X.K x lo hi H Q ∨ rSlS x lo hi H Q) := SlR.or sl_list (SlR.or sl_tup sl_str)

/-! ### calls -/
theorem cr_len (hK : X.K = T.K) : CallR X (.builtin "len") (fun xs H Q => ∃ x, xs = [x] ∧ rP T .len [x] H Q) := by
  intro pins s σ H xs us0 Q I rxs h
  obtain ⟨x, rfl, h⟩ := h
  obtain ⟨F, d1, d, p1, -, hp, us⟩ := rP1 h
  replace hp : pLen d1 = .ok d := hp
  unfold pLen at hp
  split at hp
  · cases hp
    obtain ⟨a, vs, rfl, e1, r1⟩ := p1
    exact call_len pins s σ H _ us0 Q I rxs ⟨_, _, rfl, .inl ⟨vs, by rw [hK]; exact e1.sq, rfl⟩, by rw [r1.length]; exact us.int⟩
  · cases hp
    obtain ⟨a, vs, rfl, e1, r1⟩ := p1
    exact call_len pins s σ H _ us0 Q I rxs ⟨_, _, rfl, .inr ⟨vs, by rw [hK]; exact e1, rfl⟩, by rw [r1.length]; exact us.int⟩
  · split at hp
    · rename_i hz
      cases hp
      cases p1.str
      exact call_len pins s σ H _ us0 Q I rxs ⟨_, _, rfl, ⟨by rw [← szLine]; exact hz, rfl⟩, us.int⟩
    · cases hp
  · cases hp
    obtain ⟨a, kvs, rfl, e1, e2, r1⟩ := p1
    exact call_lenD pins s σ H _ us0 Q I rxs ⟨a, kvs, rfl, e1, by rw [show kvs.length = _ from (congrArg List.length e2).trans (List.length_map _) |>.symm]; exact us.int⟩
  · cases hp
theorem cr_abs : CallR X (.builtin "abs") (fun xs H Q => ∃ x, xs = [x] ∧ rP T .abs [x] H Q) := by
  intro pins s σ H xs us0 Q I rxs h
  obtain ⟨x, rfl, h⟩ := h
  obtain ⟨F, d1, d, p1, -, hp, us⟩ := rP1 h
  replace hp : pAbs d1 = .ok d := hp
  unfold pAbs at hp
  split at hp
  · cases hp
    cases p1.int
    exact call_abs pins s σ H _ us0 Q I rxs ⟨_, rfl, us.int⟩
  · cases hp
theorem cr_int1 : CallR X (.type "int") (fun xs H Q => ∃ x, xs = [x] ∧ rP T .intof [x] H Q) := by
  intro pins s σ H xs us0 Q I rxs h
  obtain ⟨x, rfl, h⟩ := h
  obtain ⟨F, d1, d, p1, -, hp, us⟩ := rP1 h
  replace hp : pInt d1 = .ok d := hp
  unfold pInt at hp
  split at hp
  · cases hp
    cases p1.int
    exact call_int1 pins s σ H _ us0 Q I rxs (.inl ⟨_, rfl, us.int⟩)
  · cases hp
    cases p1.bool
    exact call_int1 pins s σ H _ us0 Q I rxs (.inr ⟨_, rfl, us.int⟩)
  · cases hp
theorem cr_max2 (hc : X.calm = true) : CallR X (.builtin "max") (fun xs H Q => ∃ x y, xs = [x, y] ∧ rP T .max2 [x, y] H Q) := by
  intro pins s σ H xs us0 Q I rxs h
  obtain ⟨x, y, rfl, h⟩ := h
  obtain ⟨F, d1, d2, d, p1, -, p2, -, hp, us⟩ := rP2 h
  replace hp : pMax2 d1 d2 = .ok d := hp
  unfold pMax2 at hp
  split at hp
  · cases hp
    cases p1.int; cases p2.int
    exact call_max2 hc pins s σ H _ us0 Q I rxs ⟨_, _, rfl, us.int⟩
  · cases hp
theorem cr_min2 (hc : X.calm = true) : CallR X (.builtin "min") (fun xs H Q => ∃ x y, xs = [x, y] ∧ rP T .min2 [x, y] H Q) := by
  intro pins s σ H xs us0 Q I rxs h
  obtain ⟨x, y, rfl, h⟩ := h
  obtain ⟨F, d1, d2, d, p1, -, p2, -, hp, us⟩ := rP2 h
  replace hp : pMin2 d1 d2 = .ok d := hp
  unfold pMin2 at hp
  split at hp
  · cases hp
    cases p1.int; cases p2.int
    exact call_min2 hc pins s σ H _ us0 Q I rxs ⟨_, _, rfl, us.int⟩
  · cases hp
theorem RDs.ints : ∀ {vs : List V} {ds : List D} {ns : List Int}, RDs T F vs ds → intsD ds = some ns → vs = ns.map V.int ∧ ds = ns.map D.int
  | _, _, _, .nil, h => by simp [intsD] at h; subst h; exact ⟨rfl, rfl⟩
  | v :: vs, d :: ds, ns, .cons r s, h => by
    cases d <;> simp only [intsD] at h <;> try (cases h; done)
    obtain ⟨ms, h1, rfl⟩ := Option.map_eq_some_iff.mp h
    obtain ⟨e1, e2⟩ := RDs.ints s h1
    cases r
    exact ⟨by rw [e1]; rfl, by rw [e2]; rfl⟩
theorem RDs.strs : ∀ {vs : List V} {ds : List D} {ns : List Str}, RDs T F vs ds → strsD ds = some ns → vs = ns.map V.str
  | _, _, _, .nil, h => by simp [strsD] at h; subst h; rfl
  | v :: vs, d :: ds, ns, .cons r s, h => by
    cases d <;> simp only [strsD] at h <;> try (cases h; done)
    obtain ⟨ms, h1, rfl⟩ := Option.map_eq_some_iff.mp h
    have e1 := RDs.strs s h1
    cases r
    rw [e1]; rfl
theorem RDs.bools : ∀ {vs : List V} {ds : List D} {ns : List Bool}, RDs T F vs ds → boolsD ds = some ns → vs = ns.map V.bl
  | _, _, _, .nil, h => by simp [boolsD] at h; subst h; rfl
  | v :: vs, d :: ds, ns, .cons r s, h => by
    cases d <;> simp only [boolsD] at h <;> try (cases h; done)
    obtain ⟨ms, h1, rfl⟩ := Option.map_eq_some_iff.mp h
    have e1 := RDs.bools s h1
    cases r
    rw [e1]; rfl
theorem cr_sum1 (hK : X.K = T.K) (hc : X.calm = true) : CallR X (.builtin "sum") (fun xs H Q => ∃ x, xs = [x] ∧ rP T .sum1 [x] H Q) := by
  intro pins s σ H xs us0 Q I rxs h
  obtain ⟨x, rfl, h⟩ := h
  obtain ⟨F, d1, d, p1, -, hp, us⟩ := rP1 h
  replace hp : pSum d1 = .ok d := hp
  unfold pSum at hp
  split at hp
  · split at hp
    · rename_i e
      cases hp
      obtain ⟨a, vs, rfl, e1, r1⟩ := p1
      obtain ⟨rfl, -⟩ := r1.ints e
      exact cr_sum hc pins s σ H _ us0 Q I rxs ⟨a, _, rfl, by rw [hK]; exact e1.sq, us.int⟩
    · cases hp
  · cases hp
theorem foldl_max : ∀ (ns : List Int) (a : Int), (ns.foldl max a ∈ a :: ns) ∧ ∀ y ∈ a :: ns, y ≤ ns.foldl max a
  | [], a => by simp
  | n :: ns, a => by
    obtain ⟨h1, h2⟩ := foldl_max ns (max a n)
    refine ⟨?_, fun y hy => ?_⟩
    · simp only [List.foldl_cons]
      rcases List.mem_cons.mp h1 with e | e
      · rw [e]
        rcases Int.le_total a n with q | q
        · rw [Int.max_eq_right q]; simp
        · rw [Int.max_eq_left q]; simp
      · exact List.mem_cons_of_mem _ (List.mem_cons_of_mem _ e)
    · simp only [List.foldl_cons]
      have h3 := h2 (max a n) List.mem_cons_self
      rcases List.mem_cons.mp hy with rfl | hy
      · exact Int.le_trans (Int.le_max_left _ _) h3
      · rcases List.mem_cons.mp hy with rfl | hy
        · exact Int.le_trans (Int.le_max_right _ _) h3
        · exact h2 y (List.mem_cons_of_mem _ hy)
theorem foldl_min : ∀ (ns : List Int) (a : Int), (ns.foldl min a ∈ a :: ns) ∧ ∀ y ∈ a :: ns, ns.foldl min a ≤ y
  | [], a => by simp
  | n :: ns, a => by
    obtain ⟨h1, h2⟩ := foldl_min ns (min a n)
    refine ⟨?_, fun y hy => ?_⟩
    · simp only [List.foldl_cons]
      rcases List.mem_cons.mp h1 with e | e
      · rw [e]
        rcases Int.le_total a n with q | q
        · rw [Int.min_eq_left q]; simp
        · rw [Int.min_eq_right q]; simp
      · exact List.mem_cons_of_mem _ (List.mem_cons_of_mem _ e)
    · simp only [List.foldl_cons]
      have h3 := h2 (min a n) List.mem_cons_self
      rcases List.mem_cons.mp hy with rfl | hy
      · exact Int.le_trans h3 (Int.min_le_left _ _)
      · rcases List.mem_cons.mp hy with rfl | hy
        · exact Int.le_trans h3 (Int.min_le_right _ _)
        · exact h2 y (List.mem_cons_of_mem _ hy)
theorem cr_max1 (hK : X.K = T.K) (hc : X.calm = true) : CallR X (.builtin "max") (fun xs H Q => ∃ x, xs = [x] ∧ rP T .max1 [x] H Q) := by
  intro pins s σ H xs us0 Q I rxs h
  obtain ⟨x, rfl, h⟩ := h
  obtain ⟨F, d1, d, p1, -, hp, us⟩ := rP1 h
  replace hp : pMaxL d1 = .ok d := hp
  unfold pMaxL at hp
  split at hp
  · split at hp
    · rename_i ns e
      cases ns with
      | nil => cases hp
      | cons n ns =>
        cases hp
        obtain ⟨a, vs, rfl, e1, r1⟩ := p1
        obtain ⟨rfl, -⟩ := r1.ints e
        refine cr_max hc pins s σ H _ us0 Q I rxs ⟨a, _, rfl, by rw [hK]; exact e1.sq, by simp, fun m h1 h2 => ?_⟩
        obtain ⟨h3, h4⟩ := foldl_max ns n
        obtain rfl : m = ns.foldl max n := Int.le_antisymm (h4 m h1) (h2 _ h3)
        exact us.int
    · cases hp
  · cases hp
theorem cr_min1 (hK : X.K = T.K) (hc : X.calm = true) : CallR X (.builtin "min") (fun xs H Q => ∃ x, xs = [x] ∧ rP T .min1 [x] H Q) := by
  intro pins s σ H xs us0 Q I rxs h
  obtain ⟨x, rfl, h⟩ := h
  obtain ⟨F, d1, d, p1, -, hp, us⟩ := rP1 h
  replace hp : pMinL d1 = .ok d := hp
  unfold pMinL at hp
  split at hp
  · split at hp
    · rename_i ns e
      cases ns with
      | nil => cases hp
      | cons n ns =>
        cases hp
        obtain ⟨a, vs, rfl, e1, r1⟩ := p1
        obtain ⟨rfl, -⟩ := r1.ints e
        refine cr_min hc pins s σ H _ us0 Q I rxs ⟨a, _, rfl, by rw [hK]; exact e1.sq, by simp, fun m h1 h2 => ?_⟩
        obtain ⟨h3, h4⟩ := foldl_min ns n
        obtain rfl : m = ns.foldl min n := Int.le_antisymm (h2 _ h3) (h4 m h1)
        exact us.int
    · cases hp
  · cases hp
theorem cr_all1 (hK : X.K = T.K) (hc : X.calm = true) : CallR X (.builtin "all") (fun xs H Q => ∃ x, xs = [x] ∧ rP T .all [x] H Q) := by
  intro pins s σ H xs us0 Q I rxs h
  obtain ⟨x, rfl, h⟩ := h
  obtain ⟨F, d1, d, p1, -, hp, us⟩ := rP1 h
  replace hp : pAll d1 = .ok d := hp
  unfold pAll at hp
  split at hp
  · split at hp
    · rename_i e
      cases hp
      obtain ⟨a, vs, rfl, e1, r1⟩ := p1
      obtain rfl := r1.bools e
      exact cr_all hc pins s σ H _ us0 Q I rxs ⟨a, _, rfl, by rw [hK]; exact e1.sq, us.bool⟩
    · cases hp
  · cases hp
theorem cr_any1 (hK : X.K = T.K) (hc : X.calm = true) : CallR X (.builtin "any") (fun xs H Q => ∃ x, xs = [x] ∧ rP T .any [x] H Q) := by
  intro pins s σ H xs us0 Q I rxs h
  obtain ⟨x, rfl, h⟩ := h
  obtain ⟨F, d1, d, p1, -, hp, us⟩ := rP1 h
  replace hp : pAny d1 = .ok d := hp
  unfold pAny at hp
  split at hp
  · split at hp
    · rename_i e
      cases hp
      obtain ⟨a, vs, rfl, e1, r1⟩ := p1
      obtain rfl := r1.bools e
      exact cr_any hc pins s σ H _ us0 Q I rxs ⟨a, _, rfl, by rw [hK]; exact e1.sq, us.bool⟩
    · cases hp
  · cases hp
theorem RDs.ofInts : ∀ (ns : List Int), RDs T F (ns.map V.int) (ns.map D.int)
  | [] => .nil
  | n :: ns => .cons (.int n) (RDs.ofInts ns)
theorem sorted_one {ns ms : List Int} (h : ms.Perm ns) (k : ms.Pairwise (· ≤ ·)) : ms = ns.mergeSort (fun a b => decide (a ≤ b)) := by
  have h1 : (ns.mergeSort (fun a b => decide (a ≤ b))).Pairwise (fun a b => decide (a ≤ b) = true) := List.pairwise_mergeSort (by intro a b c; simp; omega) (by intro a b; simp; omega) ns
  have h2 : (ns.mergeSort (fun a b => decide (a ≤ b))).Perm ns := List.mergeSort_perm ns _
  refine List.Perm.eq_of_pairwise (le := fun a b : Int => a ≤ b) ?_ k (h1.imp fun q => by simpa using q) (h.trans h2.symm)
  intro a b _ _ q1 q2
  exact Int.le_antisymm q1 q2
theorem cr_sorted1 (hK : X.K = T.K) : CallR X (.builtin "sorted") (fun xs H Q => ∃ x, xs = [x] ∧ rP T .sorted [x] H Q) := by
  intro pins s σ H xs us0 Q I rxs h
  obtain ⟨x, rfl, h⟩ := h
  obtain ⟨F, d1, d, p1, -, hp, us⟩ := rP1 h
  replace hp : pSorted d1 = .ok d := hp
  unfold pSorted at hp
  split at hp
  · split at hp
    · rename_i e
      cases hp
      obtain ⟨a, vs, rfl, e1, r1⟩ := p1
      obtain ⟨rfl, -⟩ := r1.ints e
      refine cr_sortedI pins s σ H _ us0 Q I rxs ⟨a, _, rfl, by rw [hK]; exact e1.sq, fun ms q h1 h2 h3 => ?_⟩
      obtain rfl := sorted_one h1 h2
      exact us.lst rfl (RDs.ofInts _) q h3
    · cases hp
  · cases hp
theorem cr_list1 (hK : X.K = T.K) : CallR X (.type "list") (fun xs H Q => ∃ x, xs = [x] ∧ rP T .listof [x] H Q) := by
  intro pins s σ H xs us0 Q I rxs h
  obtain ⟨x, rfl, h⟩ := h
  obtain ⟨F, d1, d, p1, -, hp, us⟩ := rP1 h
  replace hp : pListof d1 = .ok d := hp
  unfold pListof at hp
  split at hp
  · cases hp
    obtain ⟨a, vs, rfl, e1, r1⟩ := p1
    exact call_list_of pins s σ H _ us0 Q I rxs ⟨a, vs, rfl, .inl (by rw [hK]; exact e1.sq), us.lst rfl r1⟩
  · cases hp
    obtain ⟨a, vs, rfl, e1, r1⟩ := p1
    exact call_list_of pins s σ H _ us0 Q I rxs ⟨a, vs, rfl, .inr (by rw [hK]; exact e1), us.lst rfl r1⟩
  · cases hp
theorem cr_tup1 (hK : X.K = T.K) : CallR X (.type "tuple") (fun xs H Q => ∃ x, xs = [x] ∧ rP T .tupof [x] H Q) := by
  intro pins s σ H xs us0 Q I rxs h
  obtain ⟨x, rfl, h⟩ := h
  obtain ⟨F, d1, d, p1, -, hp, us⟩ := rP1 h
  replace hp : pTupof d1 = .ok d := hp
  unfold pTupof at hp
  split at hp
  · cases hp
    obtain ⟨a, vs, rfl, e1, r1⟩ := p1
    exact call_tuple_of pins s σ H _ us0 Q I rxs ⟨a, vs, rfl, .inl ⟨by rw [hK]; exact e1.sq, us.tup rfl r1⟩⟩
  · cases hp
end
end Fh
end
section
set_option maxRecDepth 100000
set_option maxHeartbeats 2000000
/-! isinstance, slices with a step, bit_length. -/
namespace Fh
open PySem PySem.Spec PyProof.Rows L2

section
variable {T : Tb} {X : Cx} {p : Prim} {F H : Hp}

/-! ### isinstance -/
def tyN : D → String
  | .non => "NoneType" | .bool _ => "bool" | .int _ => "int" | .str _ => "str" | .list _ => "list" | .tup _ => "tuple" | .dict _ _ => "dict" | _ => ""
def tyS : Ty → String
  | .int => "int" | .bool => "bool" | .str => "str" | .list => "list" | .tup => "tuple" | .dict => "dict"
theorem tyx_of (hK : X.K = T.K) {pins : List (Addr × Obj)} {s : Shared} {σ : L2.St} {H : Hp} {x : V} {d : D} (I : Inv X pins σ H s) (w : RD T H x d) (h : plainD d = true) : TyX X.K H x (.type (tyN d)) := by
  cases w with
  | non => exact .base .non
  | bool b => exact .base (.bl b)
  | int i => exact .base (.int i)
  | str z => exact .base (.str z)
  | list e _ =>
    rcases e with (e | ⟨o, e⟩) | ⟨its, n, e, _⟩
    · exact .base (.lst e)
    · exact .base (.frz e)
    · exact .kList (by rw [hK]; exact e) rfl
  | tup e _ =>
    rcases e with (e | ⟨o, e⟩) | ⟨o, its, n, e, c, _⟩
    · exact .base (.tup e)
    · exact .fTuple e
    · exact .kTuple (by rw [hK]; exact e) c
  | dict e _ => exact .base (.dK e)
  | fn => cases h
  | cls => cases h
theorem kit_all (d : D) (t : Ty) (h : plainD d = true) : kitB (tyN d) (tyS t) = some (isTy t d) := by
  have k0 : kitB "NoneType" (tyS t) = some (isTy t .non) := by cases t <;> decide +kernel
  have k1 : kitB "bool" (tyS t) = some (isTy t (.bool true)) := by cases t <;> decide +kernel
  have k2 : kitB "int" (tyS t) = some (isTy t (.int 0)) := by cases t <;> decide +kernel
  have k3 : kitB "str" (tyS t) = some (isTy t (.str ⟨#[]⟩)) := by cases t <;> decide +kernel
  have k4 : kitB "list" (tyS t) = some (isTy t (.list [])) := by cases t <;> decide +kernel
  have k5 : kitB "tuple" (tyS t) = some (isTy t (.tup [])) := by cases t <;> decide +kernel
  have k6 : kitB "dict" (tyS t) = some (isTy t (.dict [] [])) := by cases t <;> decide +kernel
  cases d with
  | non => exact k0
  | bool b => cases t <;> exact k1
  | int b => cases t <;> exact k2
  | str b => cases t <;> exact k3
  | list b => cases t <;> exact k4
  | tup b => cases t <;> exact k5
  | dict b => cases t <;> exact k6
  | fn => cases h
  | cls => cases h
theorem cr_isinst (hK : X.K = T.K) (t : Ty) : CallR X (.builtin "isinstance") (fun xs H Q => ∃ x, xs = [x, .ty (tyS t)] ∧ rP T (.isinst t) [x] H Q) := by
  intro pins s σ H xs us0 Q I rxs h
  obtain ⟨x, rfl, h⟩ := h
  obtain ⟨F, d1, d, -, w1, hp, us⟩ := rP1 h
  replace hp : (if plainD d1 then R.ok (D.bool (isTy t d1)) else .bad) = .ok d := hp
  split at hp
  · rename_i hd
    cases hp
    exact call_isi pins s σ H _ us0 Q I rxs ⟨x, _, _, _, _, rfl, .ty _, tyx_of hK I w1 hd, kit_ty (kit_all d1 t hd), us.bool⟩
  · cases hp
theorem cr_isinst2 (hK : X.K = T.K) (t u : Ty) : CallR X (.builtin "isinstance") (fun xs H Q => ∃ x tp, xs = [x, .ref tp] ∧ H tp = some (.tup [.ty (tyS t), .ty (tyS u)]) ∧ rP T (.isinst2 t u) [x] H Q) := by
  intro pins s σ H xs us0 Q I rxs h
  obtain ⟨x, tp, rfl, ht, h⟩ := h
  obtain ⟨F, d1, d, -, w1, hp, us⟩ := rP1 h
  replace hp : (if plainD d1 then R.ok (D.bool (isTy t d1 || isTy u d1)) else .bad) = .ok d := hp
  split at hp
  · rename_i hd
    cases hp
    refine call_isiT pins s σ H _ us0 Q I rxs ⟨x, tp, _, _, [.type (tyS t), .type (tyS u)], _, rfl, ht, .cons (.ty _) (.cons (.ty _) .nil), tyx_of hK I w1 hd, ?_, us.bool⟩
    refine kitAny_cons (kit_ty (kit_all d1 t hd)) (fun e => ?_) fun e => by rw [e]; rfl
    rw [e, Bool.false_or]
    refine kitAny_cons (kit_ty (kit_all d1 u hd)) (fun e => ?_) fun e => by rw [e]
    rw [e]
    rfl
  · cases hp

/-! ### slices with a step -/
theorem pe_slice3 {e : Expr} {lo hi st : Option Expr} {te : TE} {tl th ts : TO} {p2 pos : Pos} {se : Expr} (hst : st = some se) {r : V → Option Int → Option Int → Option Int → Hp → VK → Prop}
    (hr : ∀ (pins : List (Addr × Obj)) (s : Shared) (σ : L2.St) (H : Hp) (x : V) (v vl vu vs : Value) (lo hi st : Option Int) (sl : Addr) (Q : VK), Inv X pins σ H s → RelV x v → s.heap.IsSliceOf sl vl vu vs → IsPart vl lo → IsPart vu hi → IsPart vs st → r x lo hi st H Q →
      ∃ T id, typeLookup (.type T) "__getitem__" = pure (some (.builtin id)) ∧ s.TypeIs v T ∧ wpAny (model X.prog X.w) X.A (getItem v (.ref sl)) (EP X pins σ Q) X.xe s)
    (he : PE X e te) (hl : PO X lo tl) (hu : PO X hi th) (hs : PO X st ts) : PE X (.Subscript e (.Slice lo hi st p2) pos) (fun σ H Q => te σ H fun x H1 => tl σ H1 fun l H2 => th σ H2 fun u H3 => ts σ H3 fun k H4 => r x l u k H4 Q) := by
  subst hst
  refine ⟨fun pins s σ H Q I h => ?_⟩
  refine Subscript_ (thn (he.run pins s σ H _ I h) ?_)
  rintro v s1 ⟨x, H1, I1, r1, q1⟩
  refine wpAny_Slice (thn (hl.run pins s1 σ H1 _ I1 q1) ?_)
  rintro vl s2 ⟨l, H2, I2, pl, q2⟩
  refine thn (hu.run pins s2 σ H2 _ I2 q2) ?_
  rintro vu s3 ⟨u, H3, I3, pu, q3⟩
  refine thn (hs.run pins s3 σ H3 _ I3 q3) ?_
  rintro vs s4 ⟨k, H4, I4, ps, q4⟩
  have I5 : Inv X pins σ H4 { s4 with heap := s4.heap.push { cls := .type "slice", data := .fields #[vl, vu, vs] } } := I4.kept (t' := s4.toks) fun b ob q => Heap.get?_push_of_some _ q
  obtain ⟨T, id, hT, ht, hg⟩ := hr pins _ σ H4 x v vl vu vs l u k s4.heap.objs.size Q I5 r1 (Heap.IsSliceOf.new ..) pl pu ps q4
  exact tail_any (ops := [v, .ref s4.heap.objs.size]) ht hT hg (by with_unfolding_all rfl)
def rSl3 (K : PySem.W.Frag) (x : V) (lo hi st : Option Int) (H : Hp) (Q : VK) : Prop := ∃ a xs, x = .ref a ∧ SqL K H a xs ∧ st ≠ some 0 ∧ ∀ p, H p = none →
  Q (.ref p) (upd H p (.lst ((sliceRange (sliceBounds lo hi st xs.length).1 (sliceBounds lo hi st xs.length).2.1 (sliceBounds lo hi st xs.length).2.2).filterMap fun i => xs[i]?)))
theorem vals_pick {xs : List V} {us : List Value} (r : Vals xs us) : ∀ l : List Nat, Vals (l.filterMap fun i => xs[i]?) (l.filterMap fun i => us[i]?)
  | [] => .nil
  | i :: l => by
    simp only [List.filterMap_cons]
    cases e : xs[i]? with
    | none =>
      rw [r.none_of e]
      exact vals_pick r l
    | some x =>
      obtain ⟨u, e2, ru⟩ := r.get e
      rw [e2]
      exact .cons ru (vals_pick r l)
theorem RDs.pick {xs : List V} {us : List D} (r : RDs T F xs us) : ∀ l : List Nat, RDs T F (l.filterMap fun i => xs[i]?) (l.filterMap fun i => us[i]?)
  | [] => .nil
  | i :: l => by
    simp only [List.filterMap_cons]
    cases e : us[i]? with
    | none =>
      have : xs[i]? = none := by
        rw [List.getElem?_eq_none_iff] at e ⊢
        rw [r.length]; exact e
      rw [this]
      exact RDs.pick r l
    | some x =>
      obtain ⟨u, e2, ru⟩ := r.get e
      rw [e2]
      exact .cons ru (RDs.pick r l)
theorem sl3 : ∀ (pins : List (Addr × Obj)) (s : Shared) (σ : L2.St) (H : Hp) (x : V) (v vl vu vs : Value) (lo hi st : Option Int) (sl : Addr) (Q : VK), Inv X pins σ H s → RelV x v → s.heap.IsSliceOf sl vl vu vs → IsPart vl lo → IsPart vu hi → IsPart vs st → rSl3 X.K x lo hi st H Q →
      ∃ T id, typeLookup (.type T) "__getitem__" = pure (some (.builtin id)) ∧ s.TypeIs v T ∧ wpAny (model X.prog X.w) X.A (getItem v (.ref sl)) (EP X pins σ Q) X.xe s := by
  intro pins s σ H x v vl vu vs lo hi st sl Q I rx hs pl pu ps h
  obtain ⟨a, xs, rfl, hx, h0, q⟩ := h
  cases rx
  obtain ⟨its, r, ht, hz⟩ := I.list hx
  have hlen := r.length
  refine ⟨"list", _, slot_list_getitem.lookup, ht.isList.typeIs, ?_⟩
  refine wpAny_getItem_list_slice ht.isList hs pl pu ps h0 ?_ (by rw [List.size_toArray] <;> omega)
  have e : slicePick its.toArray lo hi st = ((sliceRange (sliceBounds lo hi st xs.length).1 (sliceBounds lo hi st xs.length).2.1 (sliceBounds lo hi st xs.length).2.2).filterMap fun i => its[i]?).toArray := by
    unfold slicePick
    simp [hlen]
  rw [e]
  have z := vals_pick r (sliceRange (sliceBounds lo hi st xs.length).1 (sliceBounds lo hi st xs.length).2.1 (sliceBounds lo hi st xs.length).2.2)
  have z2 := slicePick_size_le its.toArray lo hi st
  rw [e, List.size_toArray, List.size_toArray, ← z.length, ← hlen] at z2
  obtain ⟨I2, fr⟩ := newL I z (Nat.le_trans z2 hz)
  exact ⟨.ref _, _, I2, rfl, q _ fr⟩
/-- xs[::-1] -/
theorem pick_rev {α : Type} (xs : List α) : ((sliceRange (sliceBounds none none (some (-1)) xs.length).1 (sliceBounds none none (some (-1)) xs.length).2.1 (sliceBounds none none (some (-1)) xs.length).2.2).filterMap fun i => xs[i]?) = xs.reverse := by
  rw [PySem.W.krv_bounds]
  show ((sliceRange ((xs.length : Int) - 1) (-1) (-1)).filterMap fun i => xs[i]?) = _
  rw [PySem.W.krv_sliceRange, PySem.W.krv_range, List.filterMap_reverse]
  have := PySem.W.krv_all xs.toArray
  simp at this
  rw [this]
end
end Fh
end
section
set_option maxRecDepth 100000
set_option maxHeartbeats 2000000
/-! A built-in's use in the syntax. -/
namespace Fh
open PySem PySem.Spec PyProof.Rows L2

section
variable {I : Info} {T : Tb} {G : Nat → R D} {c : Callee} {k : Nat} {N : List Str} {io : Bool} {Wx : WX} {X : Cx} {p : Prim} {es : Es} {exs : List Expr} {g g' : Lv} {sc : Scope} {a b ex : Expr} {pos : Pos}

theorem gl_of (hsc : X.env.scope = sc) {x : Str} (h : glB sc x = true) : Gl X x ∧ (x == ("__debug__" : Str)) = false ∧ x ≠ "__name__" := by
  subst hsc
  unfold glB looksK at h
  simp only [Bool.and_eq_true, Bool.not_eq_true', beq_eq_false_iff_ne, beq_iff_eq] at h
  exact ⟨h.1.1, by simpa using h.1.2, h.2⟩

theorem s_bin {op : Operator} (hop : OpR X (binaryOp op) (fun x y H Q => rP T p [x, y] H Q)) (hp : POps T G c io Wx X es [a, b] g g') : PE X (.BinOp a op b pos) (tI T G c io Wx (.prim p es) g (outL p es g') p.lv) := by
  obtain ⟨ta, tb, ha, hb, ma, mb, _, _, q⟩ := hp.two
  exact PE.of (pe_op hop ha hb) fun σ H Q h => q σ H _ (tI_prim hp.vars h)
theorem noSet_mark {op : CmpOp} (h : noSet b = true) : behindInMarks op b = false := by
  cases b <;> first | rfl | (simp [noSet] at h; done)
theorem s_cmp {op : CmpOp} (hop : OpR X (compareOp op) (fun x y H Q => rP T p [x, y] H Q)) (hp : POps T G c io Wx X es [a, b] g g') (hb : noSet b = true) : PE X (.Compare a [op] [b] pos) (tI T G c io Wx (.prim p es) g (outL p es g') p.lv) := by
  obtain ⟨ta, tb, h1, h2, ma, mb, _, _, q⟩ := hp.two
  exact PE.of (pe_cmpR hop h1 h2 (noSet_mark hb)) fun σ H Q h => q σ H _ (tI_prim hp.vars h)
theorem s_un (hop : UnR X (unaryOp .USub) (fun x H Q => rP T p [x] H Q)) (hp : POps T G c io Wx X es [a] g g') : PE X (.UnaryOp .USub a pos) (tI T G c io Wx (.prim p es) g (outL p es g') p.lv) := by
  obtain ⟨ta, h1, ma, _, q⟩ := hp.one
  exact PE.of (pe_un hop h1) fun σ H Q h => q σ H _ (tI_prim hp.vars h)
theorem s_not (hK : X.K = T.K) (hp : POps T G c io Wx X es [a] g g') : PE X (.UnaryOp .Not a pos) (tI T G c io Wx (.prim .not es) g (outL .not es g') 9) := by
  obtain ⟨ta, h1, ma, _, q⟩ := hp.one
  exact PE.of (un_notT hK h1) fun σ H Q h => q σ H _ (tI_prim (p := .not) hp.vars h)
theorem s_idx (hK : X.K = T.K) (hp : POps T G c io Wx X es [a, b] g g') (hb : noSlice b = true) : PE X (.Subscript a b pos) (tI T G c io Wx (.prim .idx es) g (outL .idx es g') 0) := by
  obtain ⟨ta, tb, h1, h2, ma, mb, _, _, q⟩ := hp.two
  refine PE.of (pe_ix (ir_idx (T := T) hK) h1 h2 ?_) fun σ H Q h => q σ H _ (tI_prim (p := .idx) hp.vars h)
  cases b <;> first | (intro _ _; rfl) | (simp [noSlice] at hb; done)
theorem s_slN (hK : X.K = T.K) {p2 : Pos} (hp : POps T G c io Wx X es [a] g g') : PE X (.Subscript a (.Slice none none none p2) pos) (tI T G c io Wx (.prim .slN es) g (outL .slN es g') 1) := by
  obtain ⟨ta, h1, ma, _, q⟩ := hp.one
  refine PE.of (pe_slice sl_any h1 po_none po_none) fun σ H Q h => ma σ H _ _ (fun x H1 z => ?_) (q σ H _ (tI_prim (p := .slN) hp.vars h))
  obtain ⟨F, d1, d, p1, -, hq, us⟩ := rP1 z
  exact sl_one hK (pins := []) (s := X.s_0) (σ := σ) p1 (show pSl none none d1 = .ok d from hq) us rfl
theorem s_slL (hK : X.K = T.K) {p2 : Pos} (hp : POps T G c io Wx X es [a, b] g g') : PE X (.Subscript a (.Slice (some b) none none p2) pos) (tI T G c io Wx (.prim .slL es) g (outL .slL es g') 1) := by
  obtain ⟨ta, tb, h1, h2, ma, mb, _, _, q⟩ := hp.two
  refine PE.of (pe_slice sl_any h1 (po_some h2) po_none) fun σ H Q h => ma σ H _ _ (fun x H1 z => mb σ H1 _ _ (fun y H2 z => ?_) z) (q σ H _ (tI_prim (p := .slL) hp.vars h))
  obtain ⟨F, d1, d2, d, p1, -, p2, -, hq, us⟩ := rP2 z
  cases d2 <;> try (exact nomatch (show R.bad = .ok d from hq))
  cases p2.int
  exact ⟨_, rfl, sl_one hK (pins := []) (s := X.s_0) (σ := σ) p1 (show pSl (some _) none d1 = .ok d from hq) us rfl⟩
theorem s_slH (hK : X.K = T.K) {p2 : Pos} (hp : POps T G c io Wx X es [a, b] g g') : PE X (.Subscript a (.Slice none (some b) none p2) pos) (tI T G c io Wx (.prim .slH es) g (outL .slH es g') 1) := by
  obtain ⟨ta, tb, h1, h2, ma, mb, _, _, q⟩ := hp.two
  refine PE.of (pe_slice sl_any h1 po_none (po_some h2)) fun σ H Q h => ma σ H _ _ (fun x H1 z => mb σ H1 _ _ (fun y H2 z => ?_) z) (q σ H _ (tI_prim (p := .slH) hp.vars h))
  obtain ⟨F, d1, d2, d, p1, -, p2, -, hq, us⟩ := rP2 z
  cases d2 <;> try (exact nomatch (show R.bad = .ok d from hq))
  cases p2.int
  exact ⟨_, rfl, sl_one hK (pins := []) (s := X.s_0) (σ := σ) p1 (show pSl none (some _) d1 = .ok d from hq) us rfl⟩
theorem pe_sliceV {e l h : Expr} {te tl th : TE} {p2 : Pos} {r : V → Option Int → Option Int → Hp → VK → Prop} (hr : SlR X r) (he : PE X e te) (hl : PE X l tl) (hh : PE X h th) :
    PE X (.Subscript e (.Slice (some l) (some h) none p2) pos) (fun σ H Q => te σ H fun x H1 => tl σ H1 fun y H2 => th σ H2 fun z H3 => ∃ i j, y = .int i ∧ z = .int j ∧ r x (some i) (some j) H3 Q) := by
  refine ⟨fun pins s σ H Q I q => ?_⟩
  refine Subscript_ (thn (he.run pins s σ H _ I q) ?_)
  rintro v s1 ⟨x, H1, I1, r1, q1⟩
  refine wpAny_Slice ?_
  rw [evalPart_some, evalPart_some, evalPart_none]
  refine thn (hl.run pins s1 σ H1 _ I1 q1) ?_
  rintro vl s2 ⟨y, H2, I2, r2, q2⟩
  refine thn (hh.run pins s2 σ H2 _ I2 q2) ?_
  rintro vu s3 ⟨z, H3, I3, r3, i, j, rfl, rfl, q3⟩
  obtain ⟨t1, rfl⟩ := r2
  obtain ⟨t2, rfl⟩ := r3
  refine wpAny_pure ?_
  have I4 : Inv X pins σ H3 { s3 with heap := s3.heap.push { cls := .type "slice", data := .fields #[.int i t1, .int j t2, .none] } } := I3.kept (t' := s3.toks) fun b ob q => Heap.get?_push_of_some _ q
  obtain ⟨T, id, hT, ht, hg⟩ := hr pins _ σ H3 x v _ _ (some i) (some j) s3.heap.objs.size Q I4 r1 (Heap.IsSliceOf.new ..) (.int _ _) (.int _ _) q3
  exact tail_any (ops := [.ref s3.heap.objs.size, v]) ht hT hg (by with_unfolding_all rfl)
theorem s_slA (hK : X.K = T.K) {p2 : Pos} {b2 : Expr} (hp : POps T G c io Wx X es [a, b, b2] g g') : PE X (.Subscript a (.Slice (some b) (some b2) none p2) pos) (tI T G c io Wx (.prim .slA es) g (outL .slA es g') 1) := by
  obtain ⟨ta, tb, tc, h1, h2, h3, ma, mb, mc, q⟩ := hp.three
  refine PE.of (pe_sliceV sl_any h1 h2 h3) fun σ H Q h => ma σ H _ _ (fun x H1 z => mb σ H1 _ _ (fun y H2 z => mc σ H2 _ _ (fun w H3 z => ?_) z) z) (q σ H _ (tI_prim (p := .slA) hp.vars h))
  obtain ⟨F, d1, d2, d3, d, p1, -, p2, p3, hq, us⟩ := rP3 z
  cases d2 <;> try (exact nomatch (show R.bad = .ok d from hq))
  cases d3 <;> try (exact nomatch (show R.bad = .ok d from hq))
  cases p2.int; cases p3.int
  exact ⟨_, _, rfl, rfl, sl_one hK (pins := []) (s := X.s_0) (σ := σ) p1 (show pSl (some _) (some _) d1 = .ok d from hq) us rfl⟩
theorem s_slR (hK : X.K = T.K) {p2 p3 p4 : Pos} {kk : Nat} (hp : POps T G c io Wx X es [a] g g') : PE X (.Subscript a (.Slice none none (some (.UnaryOp .USub (.Constant (.int 1) kk p3) p4)) p2) pos) (tI T G c io Wx (.prim .slR es) g (outL .slR es g') 1) := by
  obtain ⟨ta, h1, ma, _, q⟩ := hp.one
  refine PE.of (pe_slice3 rfl sl3 h1 po_none po_none (po_some (pe_un un_neg pe_int))) fun σ H Q h => ma σ H _ _ (fun x H1 z => ?_) (q σ H _ (tI_prim (p := .slR) hp.vars h))
  obtain ⟨F, d1, d, p1, -, hq, us⟩ := rP1 z
  refine ⟨1, rfl, _, rfl, ?_⟩
  replace hq : pRev d1 = .ok d := hq
  unfold pRev at hq
  split at hq
  · cases hq
    obtain ⟨a, vs, rfl, e1, r1⟩ := p1
    refine ⟨a, vs, rfl, by rw [hK]; exact e1.sq, by decide, fun q hq => ?_⟩
    rw [pick_rev]
    exact us.lst rfl r1.reverse q hq
  · cases hq
theorem pick_at {F : Hp} {vs : List V} {ds : List D} (r : RDs T F vs ds) (lo : Option Int) (j : Int) : RDs T F ((sliceRange (sliceBounds lo none (some j) vs.length).1 (sliceBounds lo none (some j) vs.length).2.1 (sliceBounds lo none (some j) vs.length).2.2).filterMap fun i => vs[i]?) (pick3 ds lo j) := by
  unfold pick3
  rw [r.length]
  exact r.pick _
theorem s_slP1 (hK : X.K = T.K) {p2 p3 : Pos} {kk j : Nat} (hp : POps T G c io Wx X es [a] g g') : PE X (.Subscript a (.Slice none none (some (.Constant (.int (j : Int)) kk p3)) p2) pos) (tI T G c io Wx (.prim (.slP j) es) g (outL (.slP j) es g') 1) := by
  obtain ⟨ta, h1, ma, _, q⟩ := hp.one
  refine PE.of (pe_slice3 rfl sl3 h1 po_none po_none (po_some pe_int)) fun σ H Q h => ma σ H _ _ (fun x H1 z => ?_) (q σ H _ (tI_prim (p := .slP j) hp.vars h))
  obtain ⟨F, d1, d, p1, -, hq, us⟩ := rP1 z
  refine ⟨_, rfl, ?_⟩
  replace hq : pSlP j none d1 = .ok d := hq
  unfold pSlP at hq
  split at hq
  · split at hq
    · cases hq
    · rename_i hj
      cases hq
      obtain ⟨a, vs, rfl, e1, r1⟩ := p1
      exact ⟨a, vs, rfl, by rw [hK]; exact e1.sq, fun z => hj (by simpa using z), fun q hq => us.lst rfl (pick_at r1 none j) q hq⟩
  · cases hq
theorem s_slP2 (hK : X.K = T.K) {p2 p3 : Pos} {kk j : Nat} (hp : POps T G c io Wx X es [a, b] g g') : PE X (.Subscript a (.Slice (some b) none (some (.Constant (.int (j : Int)) kk p3)) p2) pos) (tI T G c io Wx (.prim (.slP j) es) g (outL (.slP j) es g') 1) := by
  obtain ⟨ta, tb, h1, h2, ma, mb, _, _, q⟩ := hp.two
  refine PE.of (pe_slice3 rfl sl3 h1 (po_some h2) po_none (po_some pe_int)) fun σ H Q h => ma σ H _ _ (fun x H1 z => mb σ H1 _ _ (fun y H2 z => ?_) z) (q σ H _ (tI_prim (p := .slP j) hp.vars h))
  obtain ⟨F, d1, d2, d, p1, -, p2, -, hq, us⟩ := rP2 z
  cases d2 <;> try (exact nomatch (show R.bad = .ok d from hq))
  cases p2.int
  refine ⟨_, rfl, _, rfl, ?_⟩
  replace hq : pSlP j (some _) d1 = .ok d := hq
  unfold pSlP at hq
  split at hq
  · split at hq
    · cases hq
    · rename_i hj
      cases hq
      obtain ⟨a, vs, rfl, e1, r1⟩ := p1
      exact ⟨a, vs, rfl, by rw [hK]; exact e1.sq, fun z => hj (by simpa using z), fun q hq => us.lst rfl (pick_at r1 _ j) q hq⟩
  · cases hq
theorem s_bits {apos : Pos} (hp : POps T G c io Wx X es [a] g g') (hb : noBare a = true) (hl : (apos.endLine == pos.line) = true) : PE X (.Call (.Attribute a "bit_length" apos) [] [] pos) (tI T G c io Wx (.prim .bitlen es) g (outL .bitlen es g') 9) := by
  obtain ⟨ta, h1, ma, _, q⟩ := hp.one
  refine PE.of (pe_bits h1 ?_ hl) fun σ H Q h => ma σ H _ _ (fun x H1 z => ?_) (q σ H _ (tI_prim (p := .bitlen) hp.vars h))
  · cases a with
    | Call f as kw p =>
      cases f <;> first | rfl | (cases as <;> cases kw <;> first | rfl | (simp [noBare] at hb; done))
    | _ => rfl
  · obtain ⟨F, d1, d, p1, -, hq, us⟩ := rP1 z
    replace hq : pBitlen d1 = .ok d := hq
    unfold pBitlen at hq
    split at hq
    · cases hq
      cases p1.int
      exact ⟨_, rfl, us.int⟩
    · cases hq
/-- "..".join(xs) -/
theorem s_join (hK : X.K = T.K) {z : Str} {kj : Nat} {cp apos : Pos} (hst : noStar a = true) (hl : (apos.endLine == pos.line) = true) (hp : POps T G c io Wx X es [a] g g') :
    PE X (.Call (.Attribute (.Constant (.str z) kj cp) "join" apos) [a] [] pos) (tI T G c io Wx (.prim (.joinS z) es) g (outL (.joinS z) es g') 9) := by
  obtain ⟨ta, e1, ma, _, qq⟩ := hp.one
  refine PE.of (pe_join pe_str e1 (star_of hst) rfl hl) fun σ H Q h => ⟨⟨z, rfl⟩, ma σ H _ _ (fun x H1 zz => ?_) (qq σ H _ (tI_prim (p := .joinS z) hp.vars h))⟩
  obtain ⟨F, d1, d, p1, -, hq, us⟩ := rP1 zz
  replace hq : pJoinS z d1 = .ok d := hq
  unfold pJoinS at hq
  split at hq
  · split at hq
    · rename_i e
      split at hq
      · rename_i hn
        cases hq
        obtain ⟨a, vs, rfl, e1, r1⟩ := p1
        obtain rfl := r1.strs e
        exact ⟨z, a, _, rfl, rfl, .inl (by rw [hK]; exact e1.sq), hn, us.str⟩
      · cases hq
    · cases hq
  · cases hq
/-- len(set(xs)) of unlike ints -/
theorem s_nuniq (ok : Ok I T G c k N Wx X) (hsc : X.env.scope = sc) {np np2 q : Pos} (hx : glB sc "len" = true) (hy : glB sc "set" = true) (hst : noStar a = true) (hp : POps T G c io Wx X es [a] g g') :
    PE X (.Call (.Name "len" np) [.Call (.Name "set" np2) [a] [] q] [] pos) (tI T G c io Wx (.prim .nuniq es) g (outL .nuniq es g') 9) := by
  obtain ⟨h1, h2, h3⟩ := gl_of hsc hx
  obtain ⟨k1, k2, k3⟩ := gl_of hsc hy
  obtain ⟨ta, e1, ma, _, qq⟩ := hp.one
  refine PE.of (RZ.pe_lenSetI h1 (ok.bl _ (by decide)) k1 (ok.bl _ (by decide)) e1 ok.calm (star_of hst)) fun σ H Q h => ma σ H _ _ (fun x H1 z => ?_) (qq σ H _ (tI_prim (p := .nuniq) hp.vars h))
  obtain ⟨F, d1, d, p1, -, hq, us⟩ := rP1 z
  replace hq : pNuniq d1 = .ok d := hq
  unfold pNuniq at hq
  split at hq
  · split at hq
    · rename_i e
      split at hq
      · rename_i hn
        cases hq
        simp only [Bool.and_eq_true, decide_eq_true_eq] at hn
        obtain ⟨a, vs, rfl, e1, r1⟩ := p1
        obtain ⟨rfl, -⟩ := r1.ints e
        exact ⟨a, _, rfl, by rw [ok.hK]; exact e1.sq, hn.1, hn.2, us.int⟩
      · cases hq
    · cases hq
  · cases hq
/-- a built-in called by its name -/
theorem s_callB {x : Str} {np : Pos} {id : String} (hc : CallR X (.builtin id) (fun xs H Q => rP T p xs H Q)) (hg : Gl X x) (hm : X.mg x = none) (hv : bootBuiltins x = some (.builtin id)) (hn : x ≠ "__name__") (hd : (x == ("__debug__" : Str)) = false)
    (hp : POps T G c io Wx X es exs g g') (hne : exs ≠ []) : PE X (.Call (.Name x np) exs [] pos) (tI T G c io Wx (.prim p es) g (outL p es g') p.lv) := by
  cases exs with
  | nil => exact absurd rfl hne
  | cons e1 er => exact PE.of (pe_callB hc hg hm hv hp.pa hn hd (star_of (hp.stars _ List.mem_cons_self)) (plain_stars fun e m => hp.stars e (List.mem_cons_of_mem _ m))) fun σ H Q h => tI_prim hp.vars h
theorem s_callT {x : Str} {np : Pos} {id : String} (hc : CallR X (.type id) (fun xs H Q => rP T p xs H Q)) (hg : Gl X x) (hm : X.mg x = none) (hv : bootBuiltins x = some (.type id)) (hn : x ≠ "__name__") (hd : (x == ("__debug__" : Str)) = false)
    (hp : POps T G c io Wx X es exs g g') (hne : exs ≠ []) : PE X (.Call (.Name x np) exs [] pos) (tI T G c io Wx (.prim p es) g (outL p es g') p.lv) := by
  cases exs with
  | nil => exact absurd rfl hne
  | cons e1 er => exact PE.of (pe_callTy hc hg hm hv hp.pa hn hd (star_of (hp.stars _ List.mem_cons_self)) (plain_stars fun e m => hp.stars e (List.mem_cons_of_mem _ m))) fun σ H Q h => tI_prim hp.vars h
theorem CallR.of {f : Value} {r r' : List V → Hp → VK → Prop} (h : CallR X f r) (m : ∀ xs H Q, r' xs H Q → r xs H Q) : CallR X f r' := fun pins s σ H xs us Q I rx q => h pins s σ H xs us Q I rx (m _ _ _ q)
theorem Parts.length {F H : Hp} {vs : List V} {ds : List D} (h : Parts T F H vs ds) : vs.length = ds.length := by
  induction h with
  | nil => rfl
  | cons _ _ _ ih => simp [ih]
theorem ar1 (h : ∀ ds d, primR p ds = .ok d → ds.length = 1) {xs : List V} {H : Hp} {Q : VK} (r : rP T p xs H Q) : ∃ x, xs = [x] ∧ rP T p [x] H Q := by
  obtain ⟨F, ds, d, le, ps, hp, k⟩ := id r
  have e := ps.length
  rw [h ds d (prim_ok hp)] at e
  match xs, e with
  | [x], _ => exact ⟨x, rfl, r⟩
theorem ar2 (h : ∀ ds d, primR p ds = .ok d → ds.length = 2) {xs : List V} {H : Hp} {Q : VK} (r : rP T p xs H Q) : ∃ x y, xs = [x, y] ∧ rP T p [x, y] H Q := by
  obtain ⟨F, ds, d, le, ps, hp, k⟩ := id r
  have e := ps.length
  rw [h ds d (prim_ok hp)] at e
  match xs, e with
  | [x, y], _ => exact ⟨x, y, rfl, r⟩
theorem len1 {ds : List D} {d : D} (h : ds.length = 1 ∨ primR p ds = .bad) (e : primR p ds = .ok d) : ds.length = 1 := by
  rcases h with h | h
  · exact h
  · rw [h] at e; cases e
theorem len2 {ds : List D} {d : D} (h : ds.length = 2 ∨ primR p ds = .bad) (e : primR p ds = .ok d) : ds.length = 2 := by
  rcases h with h | h
  · exact h
  · rw [h] at e; cases e

/-- the built-ins by name -/
theorem s_name (ok : Ok I T G c k N Wx X) (hsc : X.env.scope = sc) {x : Str} {np : Pos} {n : Nat} (hb : p.bn = some (x, n)) (hx : glB sc x = true) (hn : exs.length = n) (hp : POps T G c io Wx X es exs g g') : PE X (.Call (.Name x np) exs [] pos) (tI T G c io Wx (.prim p es) g (outL p es g') p.lv) := by
  obtain ⟨h1, h2, h3⟩ := gl_of hsc hx
  have hu := ok.rm.units
  have ne : ∀ m, n = m + 1 → exs ≠ [] := fun m e z => by subst z; simp at hn; omega
  have l1 : ∀ {q : Prim}, (primR q [] = .bad) → (∀ a b r, primR q (a :: b :: r) = .bad) → ∀ ds d, primR q ds = .ok d → ds.length = 1 := fun {q} e0 e2 ds d e => by
    match ds, e with
    | [], e => rw [e0] at e; cases e
    | [a], _ => rfl
    | a :: b :: r, e => rw [e2] at e; cases e
  have l2 : ∀ {q : Prim}, (primR q [] = .bad) → (∀ a, primR q [a] = .bad) → (∀ a b z r, primR q (a :: b :: z :: r) = .bad) → ∀ ds d, primR q ds = .ok d → ds.length = 2 := fun {q} e0 e1 e2 ds d e => by
    match ds, e with
    | [], e => rw [e0] at e; cases e
    | [a], e => rw [e1] at e; cases e
    | [a, b], _ => rfl
    | a :: b :: z :: r, e => rw [e2] at e; cases e
  cases p <;> simp only [Prim.bn, Option.some.injEq, Prod.mk.injEq, reduceCtorEq] at hb <;> obtain ⟨rfl, rfl⟩ := hb
  case len => exact s_callB (CallR.of (cr_len ok.hK) fun xs H Q => ar1 (l1 rfl fun _ _ _ => rfl)) h1 (ok.bl _ (by decide)) (by decide +kernel) h3 h2 hp (ne _ rfl)
  case abs => exact s_callB (CallR.of cr_abs fun xs H Q => ar1 (l1 rfl fun _ _ _ => rfl)) h1 (ok.bl _ (by decide)) (by decide +kernel) h3 h2 hp (ne _ rfl)
  case max1 => exact s_callB (CallR.of (cr_max1 ok.hK ok.calm) fun xs H Q => ar1 (l1 rfl fun _ _ _ => rfl)) h1 (ok.bl _ (by decide)) (by decide +kernel) h3 h2 hp (ne _ rfl)
  case max2 => exact s_callB (CallR.of (cr_max2 ok.calm) fun xs H Q => ar2 (l2 rfl (fun _ => rfl) fun _ _ _ _ => rfl)) h1 (ok.bl _ (by decide)) (by decide +kernel) h3 h2 hp (ne _ rfl)
  case min1 => exact s_callB (CallR.of (cr_min1 ok.hK ok.calm) fun xs H Q => ar1 (l1 rfl fun _ _ _ => rfl)) h1 (ok.bl _ (by decide)) (by decide +kernel) h3 h2 hp (ne _ rfl)
  case min2 => exact s_callB (CallR.of (cr_min2 ok.calm) fun xs H Q => ar2 (l2 rfl (fun _ => rfl) fun _ _ _ _ => rfl)) h1 (ok.bl _ (by decide)) (by decide +kernel) h3 h2 hp (ne _ rfl)
  case sum1 => exact s_callB (CallR.of (cr_sum1 ok.hK ok.calm) fun xs H Q => ar1 (l1 rfl fun _ _ _ => rfl)) h1 (ok.bl _ (by decide)) (by decide +kernel) h3 h2 hp (ne _ rfl)
  case sum2 => exact s_callB (CallR.of (cr_sum2 ok.hK ok.calm) fun xs H Q => ar2 (l2 rfl (fun _ => rfl) fun _ _ _ _ => rfl)) h1 (ok.bl _ (by decide)) (by decide +kernel) h3 h2 hp (ne _ rfl)
  case sorted => exact s_callB (CallR.of (cr_sorted1 ok.hK) fun xs H Q => ar1 (l1 rfl fun _ _ _ => rfl)) h1 (ok.bl _ (by decide)) (by decide +kernel) h3 h2 hp (ne _ rfl)
  case all => exact s_callB (CallR.of (cr_all1 ok.hK ok.calm) fun xs H Q => ar1 (l1 rfl fun _ _ _ => rfl)) h1 (ok.bl _ (by decide)) (by decide +kernel) h3 h2 hp (ne _ rfl)
  case any => exact s_callB (CallR.of (cr_any1 ok.hK ok.calm) fun xs H Q => ar1 (l1 rfl fun _ _ _ => rfl)) h1 (ok.bl _ (by decide)) (by decide +kernel) h3 h2 hp (ne _ rfl)
  case listof => exact s_callT (CallR.of (cr_list1 ok.hK) fun xs H Q => ar1 (l1 rfl fun _ _ _ => rfl)) h1 (ok.bl _ (by decide)) (by decide +kernel) h3 h2 hp (ne _ rfl)
  case tupof => exact s_callT (CallR.of (cr_tup1 ok.hK) fun xs H Q => ar1 (l1 rfl fun _ _ _ => rfl)) h1 (ok.bl _ (by decide)) (by decide +kernel) h3 h2 hp (ne _ rfl)
  case intof => exact s_callT (CallR.of cr_int1 fun xs H Q => ar1 (l1 rfl fun _ _ _ => rfl)) h1 (ok.bl _ (by decide)) (by decide +kernel) h3 h2 hp (ne _ rfl)
  case repr => exact s_callB (CallR.of (cr_repr ok.hK ok.gd hu) fun xs H Q => ar1 (l1 rfl fun _ _ _ => rfl)) h1 (ok.bl _ (by decide)) (by decide +kernel) h3 h2 hp (ne _ rfl)
end
end Fh
end
section
set_option maxRecDepth 100000
set_option maxHeartbeats 2000000
/-! All built-ins' uses. -/
namespace Fh
open PySem PySem.Spec PyProof.Rows L2

section
variable {I : Info} {T : Tb} {G : Nat → R D} {c : Callee} {k : Nat} {N : List Str} {io : Bool} {Wx : WX} {X : Cx} {p : Prim} {es : Es} {exs : List Expr} {g g' : Lv} {sc : Scope} {a b ex : Expr} {pos : Pos}

theorem isNm_of {x : Str} {y : Expr} (h : isNm sc x y = true) : ∃ pos, y = .Name x pos ∧ glB sc x = true := by
  cases y <;> simp only [isNm, Bool.and_eq_true, decide_eq_true_eq] at h <;> try (cases h; done)
  rename_i id pos
  obtain ⟨rfl, h2⟩ := h
  exact ⟨pos, rfl, h2⟩
theorem ty_name (ok : Ok I T G c k N Wx X) (hsc : X.env.scope = sc) (t : Ty) {y : Expr} (h : isNm sc t.nm y = true) : PE X y (tC (.ty (tyS t))) ∧ noStar y = true := by
  obtain ⟨pos, rfl, h2⟩ := isNm_of h
  obtain ⟨h3, h4, h5⟩ := gl_of hsc h2
  have hb : t.nm ∈ bltNames := by cases t <;> decide
  have hv : bootBuiltins t.nm = some (.type (tyS t)) := by cases t <;> decide +kernel
  exact ⟨pe_bltn h3 (ok.bl _ hb) hv rfl h5 h4, rfl⟩
theorem s_isinst (ok : Ok I T G c k N Wx X) (hsc : X.env.scope = sc) {t : Ty} {np : Pos} (hx : glB sc "isinstance" = true) (hy : isNm sc t.nm b = true) (hp : POps T G c io Wx X es [a] g g') : PE X (.Call (.Name "isinstance" np) [a, b] [] pos) (tI T G c io Wx (.prim (.isinst t) es) g (outL (.isinst t) es g') 9) := by
  obtain ⟨h3, h4, h5⟩ := gl_of hsc hx
  obtain ⟨ta, h1, ma, ns, q⟩ := hp.one
  obtain ⟨h2, ns2⟩ := ty_name ok hsc t hy
  refine PE.of (pe_callB (cr_isinst ok.hK t) h3 (ok.bl _ (by decide)) (by decide +kernel) (pa_cons h1 (pa_cons h2 pa_nil (star_of ns2)) (star_of ns)) h5 h4 (star_of ns) (by rw [star_of ns2]; rfl)) fun σ H Q h => ma σ H _ _ (fun x H1 z => ?_) (q σ H _ (tI_prim (p := .isinst t) hp.vars h))
  exact ⟨x, rfl, z⟩
theorem s_isinst2 (ok : Ok I T G c k N Wx X) (hsc : X.env.scope = sc) {t u : Ty} {np tp : Pos} {kk : Nat} {b2 : Expr} (hx : glB sc "isinstance" = true) (hy : isNm sc t.nm b = true) (hz : isNm sc u.nm b2 = true) (hp : POps T G c io Wx X es [a] g g') : PE X (.Call (.Name "isinstance" np) [a, .Tuple [b, b2] kk tp] [] pos) (tI T G c io Wx (.prim (.isinst2 t u) es) g (outL (.isinst2 t u) es g') 9) := by
  obtain ⟨h3, h4, h5⟩ := gl_of hsc hx
  obtain ⟨ta, h1, ma, ns, q⟩ := hp.one
  obtain ⟨h2, ns2⟩ := ty_name ok hsc t hy
  obtain ⟨h2', ns3⟩ := ty_name ok hsc u hz
  have pt : PE X (.Tuple [b, b2] kk tp) _ := pe_tup (pa_cons h2 (pa_cons h2' pa_nil (star_of ns3)) (star_of ns2))
  refine PE.of (pe_callB (cr_isinst2 ok.hK t u) h3 (ok.bl _ (by decide)) (by decide +kernel) (pa_cons h1 (pa_cons pt pa_nil) (star_of ns)) h5 h4 (star_of ns) (by rfl)) fun σ H Q h => ma σ H _ _ (fun x H1 z => ?_) (q σ H _ (tI_prim (p := .isinst2 t u) hp.vars h))
  refine ⟨(by show 2 ≤ sizeLine; decide), fun r hr => ⟨x, r, rfl, upd_same, ?_⟩⟩
  obtain ⟨F, ds, d, le, ps, hq, kk⟩ := z
  have le2 := le_upd (o := .tup [.ty (tyS t), .ty (tyS u)]) hr
  refine ⟨F, ds, d, le.trans le2, ?_, hq, fun v H' fp h1 h2 h3 h4 => kk v H' fp (le2.trans h1) h2 h3 fun a m => ⟨?_, (h4 a m).2⟩⟩
  · have mp : ∀ {v : V} {d : D}, Part T F H1 v d → Part T F (upd H1 r (.tup [.ty (tyS t), .ty (tyS u)])) v d := by
      intro v d h
      cases d with
      | list ds =>
        obtain ⟨a, vs, e1, e2, e3⟩ := h
        exact ⟨a, vs, e1, e2.le le2, e3⟩
      | tup ds =>
        obtain ⟨a, vs, e1, e2, e3⟩ := h
        exact ⟨a, vs, e1, SqT.le le2 e2, e3⟩
      | dict ks ds =>
        obtain ⟨a, kvs, e1, e2, e3, e4⟩ := h
        exact ⟨a, kvs, e1, le2 _ _ e2, e3, e4⟩
      | _ => exact h
    cases ps with
    | cons p1 w1 ps =>
      cases ps
      exact .cons (mp p1) (w1.le le2) .nil
  · exact none_of_le le2 (h4 a m).1

/-- THE BUILT-INS -/
theorem sPrim (ok : Ok I T G c k N Wx X) (hsc : X.env.scope = sc) (ho : opsOf sc p ex = some exs) (hp : POps T G c io Wx X es exs g g') : PE X ex (tI T G c io Wx (.prim p es) g (outL p es g') p.lv) := by
  have hu := ok.rm.units
  have hu5 : X.A.units + 65 < cLine := by have := ok.rm.un; omega
  unfold opsOf at ho
  split at ho
  · -- BinOp
    rename_i a op b _
    split at ho
    · rename_i hb
      cases ho
      cases p <;> cases op <;> first | (simp [binP] at hb; done) | skip
      · exact s_bin (or_add ok.hK) hp
      · exact s_bin or_sub hp
      · exact s_bin (or_mul ok.hK) hp
      · exact s_bin or_fdiv hp
      · exact s_bin or_mod hp
      · exact s_bin or_pow hp
    · cases ho
  · -- Compare
    rename_i a op b _
    split at ho
    · rename_i hb
      cases ho
      simp only [Bool.and_eq_true] at hb
      obtain ⟨h1, h2⟩ := hb
      cases p <;> cases op <;> first | (simp [cmpP] at h1; done) | skip
      · exact s_cmp or_lt hp h2
      · exact s_cmp or_le hp h2
      · exact s_cmp or_gt hp h2
      · exact s_cmp or_ge hp h2
      · exact s_cmp (or_eq ok.hK hu) hp h2
      · exact s_cmp (or_ne ok.hK hu) hp h2
      · exact s_cmp (or_in ok.hK hu5) hp h2
      · exact s_cmp (or_notin ok.hK hu5) hp h2
      · exact s_cmp or_is hp h2
      · exact s_cmp or_isnot hp h2
    · cases ho
  · -- UnaryOp
    rename_i op a _
    split at ho
    · rename_i hb
      cases ho
      cases p <;> cases op <;> first | (simp [unP] at hb; done) | skip
      · exact s_un ur_neg hp
      · exact s_not ok.hK hp
    · cases ho
  · -- slices
    split at ho <;> cases ho
    · exact s_slN ok.hK hp
    · exact s_slL ok.hK hp
    · exact s_slH ok.hK hp
    · exact s_slA ok.hK hp
  · split at ho <;> cases ho
    exact s_slR ok.hK hp
  · split at ho
    · split at ho
      · rename_i h1
        cases ho
        simp only [decide_eq_true_eq] at h1
        subst h1
        exact s_slP1 ok.hK hp
      · cases ho
    · split at ho
      · rename_i h1
        cases ho
        simp only [decide_eq_true_eq] at h1
        subst h1
        exact s_slP2 ok.hK hp
      · cases ho
    · cases ho
  · split at ho
    · split at ho
      · rename_i h1
        cases ho
        exact s_idx ok.hK hp h1
      · cases ho
    · cases ho
  · -- calls
    split at ho
    · split at ho
      · rename_i h1
        cases ho
        simp only [Bool.and_eq_true, decide_eq_true_eq] at h1
        obtain ⟨⟨rfl, h2⟩, h3⟩ := h1
        exact s_isinst ok hsc h2 h3 hp
      · cases ho
    · split at ho
      · rename_i h1
        cases ho
        simp only [Bool.and_eq_true, decide_eq_true_eq] at h1
        obtain ⟨⟨⟨rfl, h2⟩, h3⟩, h4⟩ := h1
        exact s_isinst2 ok hsc h2 h3 h4 hp
      · cases ho
    · split at ho
      · rename_i h1
        cases ho
        simp only [Bool.and_eq_true, decide_eq_true_eq] at h1
        obtain ⟨⟨⟨⟨rfl, h2⟩, rfl⟩, h3⟩, h4⟩ := h1
        exact s_nuniq ok hsc h2 h3 h4 hp
      · cases ho
    · split at ho
      · rename_i e1
        split at ho
        · rename_i h1
          cases ho
          simp only [Bool.and_eq_true, decide_eq_true_eq] at h1
          obtain ⟨⟨rfl, h2⟩, h3⟩ := h1
          exact s_name ok hsc e1 h2 h3 hp
        · cases ho
      · cases ho
  · split at ho
    · split at ho
      · split at ho
        · rename_i h1
          cases ho
          simp only [Bool.and_eq_true, decide_eq_true_eq] at h1
          obtain ⟨⟨⟨rfl, rfl⟩, h2⟩, h3⟩ := h1
          exact s_join ok.hK h2 h3 hp
        · cases ho
      · cases ho
    · split at ho
      · rename_i h1
        cases ho
        simp only [Bool.and_eq_true, decide_eq_true_eq] at h1
        obtain ⟨⟨rfl, h2⟩, h3⟩ := h1
        exact s_bits hp h2 h3
      · cases ho
    · cases ho
  · cases ho
end
end Fh
end
section
set_option maxRecDepth 100000
set_option maxHeartbeats 2000000
/-! Levels only fall; fewer levels of a whole state. -/
namespace Fh
open PySem PySem.Spec PyProof.Rows L2

section
variable (I : Info) (N : List Str) (io : Bool)
theorem frz_le : ∀ (as : Es) (g : Lv), (io = true → notIn 0 as = true) → LeC io (frzOps as g) g
  | .nil, g, _ => by unfold frzOps; exact LeC.refl g
  | .cons e es, g, h => by
    cases e with
    | var i =>
      have h2 : io = true → i ≠ 0 ∧ notIn 0 es = true := fun e => by
        have := h e
        simp only [notIn, Bool.and_eq_true, decide_eq_true_eq] at this
        exact this
      have ih := frz_le es g fun e => (h2 e).2
      simp only [frzOps]
      exact (LeC.set (Nat.zero_le _) fun e z => absurd z (h2 e).1).trans ih
    | _ =>
      have ih := frz_le es g fun e => by have := h e; simpa only [notIn] using this
      simpa only [frzOps] using ih
theorem foldset_len (own : List Nat) (f : Nat → Nat) : ∀ g : Lv, (own.foldl (fun r i => r.set i (f i)) g).length = g.length := by
  induction own with
  | nil => intro g; rfl
  | cons i is ih => intro g; simp only [List.foldl_cons]; rw [ih]; simp
theorem foldset_out (own : List Nat) (f : Nat → Nat) : ∀ (g : Lv) (j : Nat), j ∉ own → (own.foldl (fun r i => r.set i (f i)) g).getD j 0 = g.getD j 0 := by
  induction own with
  | nil => intro g j _; rfl
  | cons i is ih =>
    intro g j h
    simp only [List.foldl_cons]
    rw [ih _ _ fun z => h (List.mem_cons_of_mem _ z), getD_set', if_neg fun z => h (by rw [z.1]; exact List.mem_cons_self)]
theorem foldset_in (own : List Nat) (f : Nat → Nat) : ∀ (g : Lv) (j : Nat), j ∈ own → j < g.length → (own.foldl (fun r i => r.set i (f i)) g).getD j 0 = f j := by
  induction own with
  | nil => intro g j h; simp at h
  | cons i is ih =>
    intro g j h hl
    simp only [List.foldl_cons]
    by_cases hj : j ∈ is
    · exact ih _ _ hj (by simpa using hl)
    · rcases List.mem_cons.mp h with rfl | z
      · rw [foldset_out _ _ _ _ hj, getD_set', if_pos ⟨rfl, hl⟩]
      · exact absurd z hj
theorem minL_le {a b : Lv} (h : LeC io b a) : LeC io (minL a b) b ∧ LeC io (minL a b) a := by
  have e : ∀ i, (minL a b).getD i 0 = b.getD i 0 := fun i => by
    have h2 := h.le i
    unfold minL
    simp only [List.getD_eq_getElem?_getD, List.getElem?_zipWith] at h2 ⊢
    cases e1 : a[i]? with
    | none =>
      have : b[i]? = none := by
        rw [List.getElem?_eq_none_iff] at e1 ⊢
        rw [h.len]; exact e1
      simp [this]
    | some x =>
      cases e2 : b[i]? with
      | none =>
        simp
      | some y =>
        rw [e1, e2] at h2
        have h3 : y ≤ x := by simpa using h2
        exact congrArg (fun z => Option.getD (some z) 0) (Nat.min_eq_right h3)
  have el : (minL a b).length = b.length := by unfold minL; rw [List.length_zipWith, h.len]; omega
  exact ⟨⟨el, fun i => by rw [e i]; exact Nat.le_refl _, fun _ z => by rw [e 0]; exact z⟩, ⟨el.trans h.len, fun i => by rw [e i]; exact h.le i, fun q z => by rw [e 0]; exact h.io q z⟩⟩
theorem leL_of {a b : Lv} (h : leL a b = true) : a.length = b.length ∧ ∀ i, a.getD i 0 ≤ b.getD i 0 := by
  unfold leL at h
  simp only [Bool.and_eq_true, decide_eq_true_eq, List.all_eq_true] at h
  refine ⟨h.1, fun i => ?_⟩
  simp only [List.getD_eq_getElem?_getD]
  cases e1 : a[i]? with
  | none => simp
  | some x =>
    cases e2 : b[i]? with
    | none =>
      rw [List.getElem?_eq_none_iff] at e2
      have := (List.getElem?_eq_some_iff.mp e1).1
      omega
    | some y =>
      have : (x, y) ∈ a.zip b := by
        apply List.mem_of_getElem? (i := i)
        rw [List.getElem?_zip_eq_some]
        exact ⟨e1, e2⟩
      exact h.2 _ this

/-- all levels fall, in the checker -/
def LE (e : E) : Prop := ∀ {sc ex g l g'}, chkE I N io sc e ex g = some (l, g') → LeC io g' g
def LEs (es : Es) : Prop := (∀ {sc exs g g'}, chkOps I N io sc es exs g = some g' → LeC io g' g) ∧ (∀ {sc exs g l g'}, chkEs I N io sc es exs g = some (l, g') → LeC io g' g) ∧
  (∀ {sc exs g l g'}, chkB I N io sc es exs g = some (l, g') → LeC io g' g) ∧ ∀ {sc exs g g'}, chkIfs I N io sc es exs g = some g' → LeC io g' g
def LIt (it : Fh.It) : Prop := ∀ {sc ex two g g'}, chkIt I N io sc it ex two g = some g' → LeC io g' g
theorem bind_some {α β : Type} {x : Option α} {f : α → Option β} {b : β} (h : x.bind f = some b) : ∃ a, x = some a ∧ f a = some b := by
  cases x with
  | none => cases h
  | some a => exact ⟨a, rfl, h⟩

theorem ne_io {i : Nat} (h : (!(io && decide (i = 0))) = true) : io = true → i ≠ 0 := by
  intro e z
  simp [e, z] at h
theorem le_cst {d} : LE I N io (.cst d) := by
  intro sc ex g l g' h
  simp only [chkE] at h
  split at h
  · split at h
    · cases h; exact LeC.refl g
    · cases h
  · cases h
theorem le_var {i} : LE I N io (.var i) := by
  intro sc ex g l g' h
  simp only [chkE] at h
  split at h
  · split at h
    · rename_i hs
      cases h
      simp only [Bool.and_eq_true] at hs
      exact LeC.set (Nat.zero_le _) fun e z => absurd z (ne_io io hs.2 e)
    · cases h
  · cases h
theorem le_glo {i} : LE I N io (.glo i) := by
  intro sc ex g l g' h
  simp only [chkE] at h
  split at h
  · split at h
    · cases h; exact LeC.refl g
    · cases h
  · cases h
theorem le_prim {p as} (ih : LEs I N io as) : LE I N io (.prim p as) := by
  intro sc ex g l g' h
  simp only [chkE] at h
  split at h
  · obtain ⟨g1, h1, h⟩ := bind_some h
    cases h
    exact (out_le io).trans (ih.1 h1)
  · cases h
theorem le_bop {b as} (ih : LEs I N io as) : LE I N io (.bop b as) := by
  intro sc ex g l g' h
  simp only [chkE] at h
  split at h
  · split at h
    · exact ih.2.2.1 h
    · cases h
  · cases h
theorem le_ife {t a b} (i1 : LE I N io t) (i2 : LE I N io a) (i3 : LE I N io b) : LE I N io (.ife t a b) := by
  intro sc ex g l g' h
  simp only [chkE] at h
  split at h
  · obtain ⟨⟨l1, g1⟩, h1, h⟩ := bind_some h
    obtain ⟨⟨l2, g2⟩, h2, h⟩ := bind_some h
    obtain ⟨⟨l3, g3⟩, h3, h⟩ := bind_some h
    cases h
    exact (i3 h3).trans ((i2 h2).trans (i1 h1))
  · cases h
theorem le_lst {as} (ih : LEs I N io as) : LE I N io (.lst as) := by
  intro sc ex g l g' h
  simp only [chkE] at h
  split at h
  · split at h
    · cases h
    · obtain ⟨⟨l1, g1⟩, h1, h⟩ := bind_some h
      cases h
      exact ih.2.1 h1
  · cases h
theorem le_tup {as} (ih : LEs I N io as) : LE I N io (.tup as) := by
  intro sc ex g l g' h
  simp only [chkE] at h
  split at h
  · split at h
    · cases h
    · obtain ⟨⟨l1, g1⟩, h1, h⟩ := bind_some h
      cases h
      exact ih.2.1 h1
  · cases h
theorem le_dct : LE I N io .dct := by
  intro sc ex g l g' h
  simp only [chkE] at h
  split at h
  · cases h; exact LeC.refl g
  · cases h
theorem le_chain {o1 o2 a b c} (i1 : LE I N io a) (i2 : LE I N io b) (i3 : LE I N io c) : LE I N io (.chain o1 o2 a b c) := by
  intro sc ex g l g' h
  simp only [chkE] at h
  split at h
  · split at h
    · obtain ⟨⟨l1, g1⟩, h1, h⟩ := bind_some h
      obtain ⟨⟨l2, g2⟩, h2, h⟩ := bind_some h
      obtain ⟨⟨l3, g3⟩, h3, h⟩ := bind_some h
      cases h
      exact (i3 h3).trans ((i2 h2).trans (i1 h1))
    · cases h
  · cases h
theorem not_notIn {as} (h : ¬ (io && !(notIn 0 as)) = true) : io = true → notIn 0 as = true := by
  intro e
  simpa [e] using h
theorem le_call {f as} (ih : LEs I N io as) : LE I N io (.call f as) := by
  intro sc ex g l g' h
  simp only [chkE] at h
  split at h
  · split at h
    · cases h
    · split at h
      · obtain ⟨g1, h1, h⟩ := bind_some h
        cases h
        exact ih.1 h1
      · split at h
        · cases h
        · rename_i hn
          obtain ⟨g1, h1, h⟩ := bind_some h
          cases h
          exact (frz_le io _ _ (not_notIn io hn)).trans (ih.1 h1)
  · cases h
theorem le_callz {f as} : LE I N io (.callz f as) := by
  intro sc ex g l g' h
  simp only [chkE] at h
  split at h
  · split at h
    · obtain ⟨g1, _, h⟩ := bind_some h
      cases h; exact LeC.refl g
    · cases h
  · cases h
theorem le_callq {f i j} : LE I N io (.callq f i j) := by
  intro sc ex g l g' h
  simp only [chkE] at h
  split at h
  · split at h
    · cases h; exact LeC.refl g
    · cases h
  · cases h
theorem le_callio {f i as} (ih : LEs I N io as) : LE I N io (.callio f i as) := by
  intro sc ex g l g' h
  simp only [chkE] at h
  split at h
  · split at h
    · rename_i hs
      simp only [Bool.and_eq_true, decide_eq_true_eq, Bool.not_eq_true'] at hs
      have l0 : LeC io (g.set i 1) g := LeC.set hs.1.1.1.2 fun _ _ _ => Nat.le_refl _
      obtain ⟨g1, h1, h⟩ := bind_some h
      split at h
      · cases h
        exact ((frz_le io _ _ (not_notIn io (by simpa using hs.1.2))).trans (ih.1 h1)).trans l0
      · cases h
    · cases h
  · cases h
theorem getD_big {g : Lv} {i : Nat} (h : g.length ≤ i) : g.getD i 0 = 0 := by
  simp only [List.getD_eq_getElem?_getD]
  rw [List.getElem?_eq_none h]
  rfl
theorem zeroL_le {g : Lv} {own : List Nat} (h : io = true → 0 ∉ own) : LeC io (zeroL g own) g := by
  unfold zeroL
  refine ⟨foldset_len own (fun _ => 0) g, fun i => ?_, fun e z => ?_⟩
  · by_cases hi : i ∈ own
    · by_cases hl : i < g.length
      · rw [foldset_in own (fun _ => 0) g i hi hl]; exact Nat.zero_le _
      · rw [getD_big (by rw [foldset_len own (fun _ => 0)]; omega)]
        exact Nat.zero_le _
    · rw [foldset_out own (fun _ => 0) g i hi]; exact Nat.le_refl _
  · rw [foldset_out own (fun _ => 0) g 0 (h e)]; exact z
theorem backL_le {g g0 : Lv} {own : List Nat} (k : LeC io g (zeroL g0 own)) (h : io = true → 0 ∉ own) : LeC io (backL g g0 own) g0 := by
  have z0 := zeroL_le io (g := g0) h
  have kz := k.trans z0
  unfold backL
  refine ⟨(foldset_len own (fun i => g0.getD i 0) g).trans kz.len, fun i => ?_, fun e z => ?_⟩
  · by_cases hi : i ∈ own
    · by_cases hl : i < g.length
      · rw [foldset_in own (fun i => g0.getD i 0) g i hi hl]; exact Nat.le_refl _
      · rw [getD_big (by rw [foldset_len own (fun i => g0.getD i 0)]; omega)]
        exact Nat.zero_le _
    · rw [foldset_out own (fun i => g0.getD i 0) g i hi]; exact kz.le i
  · rw [foldset_out own (fun i => g0.getD i 0) g 0 (h e)]; exact kz.io e z
theorem le_comp {elt own tg it ifs} (i1 : LE I N io elt) (i2 : LIt I N io it) (i3 : LEs I N io ifs) : LE I N io (.comp elt own tg it ifs) := by
  intro sc ex g l g' h
  simp only [chkE] at h
  split at h
  · split at h
    · rename_i hs
      simp only [Bool.and_eq_true, decide_eq_true_eq, List.all_eq_true] at hs
      have h0 : io = true → 0 ∉ own := fun e z => ne_io io (hs.2 0 z).1.2 e rfl
      obtain ⟨g1, h1, h⟩ := bind_some h
      obtain ⟨h2, e2, h⟩ := bind_some h
      obtain ⟨h3, e3, h⟩ := bind_some h
      obtain ⟨h4, e4, h⟩ := bind_some h
      obtain ⟨⟨l5, h5⟩, e5, h⟩ := bind_some h
      have st : ∀ {sc2 : Scope} {eifs : List Expr} {eelt : Expr} {a b : Lv}, ((chkIfs I N io sc2 ifs eifs a).bind fun h1 => chkE I N io sc2 elt eelt h1).bind (fun x => some (minL a x.2)) = some b → LeC io b a := fun {sc2 eifs eelt a b} q => by
        obtain ⟨⟨l6, h6⟩, e6, q⟩ := bind_some q
        obtain ⟨h7, e7, e8⟩ := bind_some e6
        cases q
        exact (minL_le io ((i1 e8).trans (i3.2.2.2 e7))).2
      split at h
      · cases h
        exact (backL_le io ((st e4).trans ((st e3).trans (st e2))) h0).trans (i2 h1)
      · cases h
    · cases h
  · cases h
theorem les_nil : LEs I N io .nil := by
  refine ⟨?_, ?_, ?_, ?_⟩
  · intro sc exs g g' h
    cases exs <;> simp only [chkOps] at h <;> cases h
    exact LeC.refl g
  · intro sc exs g l g' h
    cases exs <;> simp only [chkEs] at h <;> cases h
    exact LeC.refl g
  · intro sc exs g l g' h
    simp only [chkB] at h
    cases h
  · intro sc exs g g' h
    cases exs <;> simp only [chkIfs] at h <;> cases h
    exact LeC.refl g
theorem les_cons {e es} (i1 : LE I N io e) (i2 : LEs I N io es) : LEs I N io (.cons e es) := by
  refine ⟨?_, ?_, ?_, ?_⟩
  · intro sc exs g g' h
    cases exs with
    | nil => cases e <;> simp only [chkOps] at h <;> cases h
    | cons ex exs =>
      by_cases hv : notVar e = true
      · have e1 : chkOps I N io sc (.cons e es) (ex :: exs) g = if noStar ex then (chkE I N io sc e ex g).bind fun (_, g1) => chkOps I N io sc es exs g1 else none := by
          cases e <;> first | (simp [notVar] at hv; done) | rfl
        rw [e1] at h
        split at h
        · obtain ⟨⟨l1, g1⟩, h1, h⟩ := bind_some h
          exact (i2.1 h).trans (i1 h1)
        · cases h
      · cases e <;> first | (simp [notVar] at hv; done) | skip
        rename_i i
        simp only [chkOps] at h
        split at h
        · split at h
          · obtain ⟨g2, h2, h⟩ := bind_some h
            split at h
            · cases h
              exact i2.1 h2
            · cases h
          · cases h
        · cases h
  · intro sc exs g l g' h
    cases exs with
    | nil => simp only [chkEs] at h; cases h
    | cons ex exs =>
      simp only [chkEs] at h
      split at h
      · obtain ⟨⟨l1, g1⟩, h1, h⟩ := bind_some h
        obtain ⟨⟨l2, g2⟩, h2, h⟩ := bind_some h
        cases h
        exact (i2.2.1 h2).trans (i1 h1)
      · cases h
  · intro sc exs g l g' h
    match exs, es with
    | [], es => rw [show chkB I N io sc (.cons e es) [] g = none by cases es <;> rfl] at h; cases h
    | [ex], .nil => exact i1 (show chkE I N io sc e ex g = some (l, g') from h)
    | [ex], .cons _ _ => cases h
    | ex :: ex2 :: exs, .nil =>
      replace h : (chkE I N io sc e ex g).bind (fun x => (chkB I N io sc .nil (ex2 :: exs) x.2).bind fun y => some (min x.1 y.1, y.2)) = some (l, g') := h
      obtain ⟨⟨l1, g1⟩, h1, h⟩ := bind_some h
      obtain ⟨⟨l2, g2⟩, h2, h⟩ := bind_some h
      cases h2
    | ex :: ex2 :: exs, .cons e2 es2 =>
      replace h : (chkE I N io sc e ex g).bind (fun x => (chkB I N io sc (.cons e2 es2) (ex2 :: exs) x.2).bind fun y => some (min x.1 y.1, y.2)) = some (l, g') := h
      obtain ⟨⟨l1, g1⟩, h1, h⟩ := bind_some h
      obtain ⟨⟨l2, g2⟩, h2, h⟩ := bind_some h
      cases h
      exact (i2.2.2.1 h2).trans (i1 h1)
  · intro sc exs g g' h
    match exs, es with
    | [], es => rw [show chkIfs I N io sc (.cons e es) [] g = none by cases es <;> rfl] at h; cases h
    | [ex], .nil =>
      replace h : (chkE I N io sc e ex g).bind (fun x => some x.2) = some g' := h
      obtain ⟨⟨l1, g1⟩, h1, h⟩ := bind_some h
      cases h
      exact i1 h1
    | [ex], .cons _ _ => cases h
    | ex :: ex2 :: exs, .nil => cases h
    | ex :: ex2 :: exs, .cons _ _ => cases h
theorem lit_over {e} (i1 : LE I N io e) : LIt I N io (.over e) := by
  intro sc ex two g g' h
  simp only [chkIt] at h
  split at h
  · obtain ⟨⟨l1, g1⟩, h1, h⟩ := bind_some h
    cases h
    exact i1 h1
  · cases h
theorem lit_range {as} (i1 : LEs I N io as) : LIt I N io (.range as) := by
  intro sc ex two g g' h
  simp only [chkIt] at h
  split at h
  · split at h
    · exact i1.1 h
    · cases h
  · cases h
theorem lit_enum {as} (i1 : LEs I N io as) : LIt I N io (.enum as) := by
  intro sc ex two g g' h
  simp only [chkIt] at h
  split at h
  · split at h
    · obtain ⟨⟨l1, g1⟩, h1, h⟩ := bind_some h
      cases h
      exact i1.2.1 h1
    · cases h
  · cases h
theorem lit_zip {as} (i1 : LEs I N io as) : LIt I N io (.zip as) := by
  intro sc ex two g g' h
  simp only [chkIt] at h
  split at h
  · split at h
    · obtain ⟨⟨l1, g1⟩, h1, h⟩ := bind_some h
      cases h
      exact i1.2.1 h1
    · cases h
  · cases h
theorem lit_zips {as} (i1 : LEs I N io as) : LIt I N io (.zips as) := by
  intro sc ex two g g' h
  simp only [chkIt] at h
  split at h
  · split at h
    · obtain ⟨⟨l1, g1⟩, h1, h⟩ := bind_some h
      cases h
      exact i1.2.1 h1
    · cases h
  · cases h
theorem le_all : ∀ e, LE I N io e := fun e =>
  E.rec (motive_1 := LE I N io) (motive_2 := LEs I N io) (motive_3 := LIt I N io) (fun _ => le_cst I N io) (fun _ => le_var I N io) (fun _ => le_glo I N io) (fun _ _ => le_prim I N io) (fun _ _ => le_bop I N io) (fun _ _ _ => le_ife I N io) (fun _ => le_lst I N io) (fun _ => le_tup I N io) (le_dct I N io)
    (fun _ _ _ _ _ => le_chain I N io) (fun _ _ => le_call I N io) (fun _ _ _ => le_callio I N io) (fun _ _ _ => le_callq I N io) (fun _ _ _ => le_callz I N io) (fun _ _ _ _ _ => le_comp I N io) (les_nil I N io) (fun _ _ => les_cons I N io) (fun _ => lit_over I N io) (fun _ => lit_range I N io) (fun _ => lit_enum I N io) (fun _ => lit_zip I N io) (fun _ => lit_zips I N io) e
theorem les_all : ∀ es, LEs I N io es
  | .nil => les_nil I N io
  | .cons e es => les_cons I N io (le_all I N io e) (les_all es)
theorem lit_all : ∀ it, LIt I N io it
  | .over e => lit_over I N io (le_all I N io e)
  | .range as => lit_range I N io (les_all I N io as)
  | .enum as => lit_enum I N io (les_all I N io as)
  | .zip as => lit_zip I N io (les_all I N io as)
  | .zips as => lit_zips I N io (les_all I N io as)
end
end Fh
end
section
set_option maxRecDepth 100000
set_option maxHeartbeats 2000000
/-! The expressions of the small language are the layer's: the plain ones. -/
namespace Fh
open PySem PySem.Spec PyProof.Rows L2

section
variable (I : Info) (T : Tb) (G : Nat → R D) (c : Callee) (k : Nat) (N : List Str) (io : Bool)

/-- what is to be shown of an expression -/
def ME (e : E) : Prop := ∀ {X : Cx} {sc : Scope} {Wx : WX} {ex : Expr} {g g' : Lv} {l : Nat}, Ok I T G c k N Wx X → X.env.scope = sc → chkE I N io sc e ex g = some (l, g') →
  PE X ex (tI T G c io Wx e g g' l) ∧ PT X ex (tT T G c io Wx e g g')

def tBo (T : Tb) (G : Nat → R D) (c : Callee) (io : Bool) (Wx : WX) (b : Bool) (es : Es) (g g' : Lv) (l : Nat) : TE := fun σ H Q => ∃ W ia F ρ fps, ia.isSome = io ∧ Rel T W ia F H σ ρ g fps ∧ EPost T W ia g' l F H Wx σ Q (evB G c b es ρ)
def tTB (T : Tb) (G : Nat → R D) (c : Callee) (io : Bool) (Wx : WX) (b : Bool) (es : Es) (g g' : Lv) : TT := fun σ H Q => ∃ W ia F ρ fps, ia.isSome = io ∧ Rel T W ia F H σ ρ g fps ∧ TPost T Wx W ia g' F H σ Q (evB G c b es ρ)
def IfPost (T : Tb) (Wx : WX) (W : Addr → Prop) (ia : Option Addr) (g' : Lv) (F H : Hp) (σ : L2.St) (Q : Bool → Hp → Prop) : R (Bool × DEnv) → Prop
  | .ok (b, ρ') => ∀ F' H' fps', Rel T W ia F' H' σ ρ' g' fps' → Pres W F H F' H' → Q b H'
  | .ex c dv => XPost T W F H Wx σ c dv
  | .bad => False
def tIfs (T : Tb) (G : Nat → R D) (c : Callee) (io : Bool) (Wx : WX) (es : Es) (g g' : Lv) : TT := fun σ H Q => ∃ W ia F ρ fps, ia.isSome = io ∧ Rel T W ia F H σ ρ g fps ∧ IfPost T Wx W ia g' F H σ Q (evIfs G c es ρ)
/-- one operand as a test -/
def ToPost (T : Tb) (Wx : WX) (W : Addr → Prop) (ia : Option Addr) (g' : Lv) (F H : Hp) (σ : L2.St) (Q : Bool → Hp → Prop) : R (List D × DEnv) → Prop
  | .ok (ds, ρ') => ∃ d b, ds = [d] ∧ truth d = .ok b ∧ ∀ F' H' fps', Rel T W ia F' H' σ ρ' g' fps' → Pres W F H F' H' → Q b H'
  | .ex c dv => XPost T W F H Wx σ c dv
  | .bad => False
def tTo (T : Tb) (G : Nat → R D) (c : Callee) (io : Bool) (Wx : WX) (es : Es) (g g' : Lv) : TT := fun σ H Q => ∃ W ia F ρ fps, ia.isSome = io ∧ Rel T W ia F H σ ρ g fps ∧ ToPost T Wx W ia g' F H σ Q (evOps G c es ρ)
def MEs (es : Es) : Prop := ∀ {X : Cx} {sc : Scope} {Wx : WX}, Ok I T G c k N Wx X → X.env.scope = sc →
  (∀ exs g g', chkOps I N io sc es exs g = some g' → POps T G c io Wx X es exs g g') ∧
  (∀ exs g l g' m, chkEs I N io sc es exs g = some (l, g') → m ≤ l → PA X exs (tEs T G c io Wx es g g' m) ∧ ∀ e ∈ exs, noStar e = true) ∧
  (∀ b op pos exs g l g', opIs b op = true → chkB I N io sc es exs g = some (l, g') → PE X (.BoolOp op exs pos) (tBo T G c io Wx b es g g' l) ∧ PW X (.BoolOp op exs pos) (tTB T G c io Wx b es g g')) ∧
  (∀ exs g g', chkIfs I N io sc es exs g = some g' → PTs X exs (tIfs T G c io Wx es g g')) ∧
  ∀ ex g g', chkOps I N io sc es [ex] g = some g' → PT X ex (tTo T G c io Wx es g g')
end

section
variable {I : Info} {T : Tb} {G : Nat → R D} {c : Callee} {k : Nat} {N : List Str} {io : Bool}
/-- an expression that is no test by itself -/
def plainT : Expr → Bool
  | .BoolOp _ _ _ => false
  | .UnaryOp .Not _ _ => false
  | .Compare _ _ _ _ => false
  | .IfExp _ _ _ _ => false
  | .NamedExpr _ _ _ => false
  | _ => true
theorem plain_test {X : Cx} {ex : Expr} (h : plainT ex = true) : ∀ whole, isTrue ex X.env whole = (do let v ← whole; standAt ex.pos; holding [v] (truthy v)) := by
  intro whole
  cases ex <;> first | rfl | (simp [plainT] at h; done) | skip
  rename_i op a pos
  cases op <;> first | rfl | (simp [plainT] at h; done)
theorem RO.tru {F H : Hp} (h : Le F H) {l : Nat} {v : V} {d : D} {fp : List Addr} {b : Bool} (r : RO T F H l v d fp) (e : truth d = .ok b) : TruV T.K v H b := by
  cases r with
  | frz r => exact tru_of (r.part h) e
  | sc _ r => exact tru_of (r.part h) e
  | tupF r => exact tru_of (r.part h) e
  | list h1 h2 h3 =>
    cases e
    refine .inl ⟨_, .inl (.inl h1), ?_⟩
    cases h3 <;> rfl
  | tup h1 h2 h3 =>
    cases e
    refine .inr (.inl ⟨_, .inl (.inl h1), ?_⟩)
    cases h3 <;> rfl
  | dict => cases e
theorem truth_ex {d : D} {k : Nat} {v : D} : truth d ≠ .ex k v := by
  cases d <;> simp [truth]
  split <;> simp
theorem tT_of {X : Cx} (hK : X.K = T.K) {Wx : WX} {e : E} {ex : Expr} {g g' : Lv} {l : Nat} (h : PE X ex (tI T G c io Wx e g g' l)) (hp : plainT ex = true) : PT X ex (tT T G c io Wx e g g') := by
  refine PT.of (pt_truth h (plain_test hp)) fun σ H Q q => ?_
  obtain ⟨W, ia, F, ρ, fps, hi, r, q⟩ := q
  refine ⟨W, ia, F, ρ, fps, hi, r, ?_⟩
  unfold TPost at q
  unfold EPost
  split at q
  · obtain ⟨b, hb, q⟩ := q
    exact fun v F' H' fps' fp a1 a2 a3 a4 => ⟨b, by rw [hK]; exact a3.tru a1.sub hb, q F' H' fps' a1 a2⟩
  · exact q
  · exact q

theorem m_cst {d : D} : ME I T G c k N io (.cst d) := by
  intro X sc Wx ex g g' l ok hsc h
  simp only [chkE] at h
  split at h
  · rename_i cc kk pos
    split at h
    · rename_i hc
      cases h
      have pe : PE X (.Constant cc kk pos) (tI T G c io Wx (.cst d) g g 9) := by
        have fin : ∀ {v : V} {t : TE}, scalar d = true → (∀ F, RD T F v d) → PE X (.Constant cc kk pos) t → (∀ σ H Q, Q v H → t σ H Q) → PE X (.Constant cc kk pos) (tI T G c io Wx (.cst d) g g 9) := by
          intro v t hs hr hp hq
          refine PE.of hp fun σ H Q ⟨W, ia, F, ρ, fps, hi, r, q⟩ => hq σ H Q ?_
          exact q v F H fps [] r Pres.refl (.sc hs (hr F)) New.nil
        cases d <;> cases cc <;> first | (simp [constP] at hc; done) | skip
        · exact fin rfl (fun F => .non) pe_non fun _ _ _ q => q
        · simp [constP] at hc; subst hc
          exact fin rfl (fun F => .bool _) pe_bl fun _ _ _ q => q
        · simp [constP] at hc; subst hc
          exact fin rfl (fun F => .int _) pe_int fun _ _ _ q => q
        · simp [constP] at hc; subst hc
          exact fin rfl (fun F => .str _) pe_str fun _ _ _ q => q
      exact ⟨pe, tT_of ok.hK pe rfl⟩
    · cases h
  · cases h
theorem slot_of {X : Cx} {Wx : WX} {sc : Scope} (ok : Ok I T G c k N Wx X) (hsc : X.env.scope = sc) {g : Lv} {i : Nat} {x : Str} {pos : Pos} (h : slotOk N sc g i x = true) : PE X (.Name x pos) (tVar i) ∧ i < g.length := by
  unfold slotOk nameOk visB looksK at h
  simp only [Bool.and_eq_true, decide_eq_true_eq, Bool.not_eq_true', Bool.or_eq_true, beq_iff_eq] at h
  obtain ⟨⟨⟨h1, h2⟩, h3, h4⟩, h5⟩ := h
  refine ⟨pe_var (by rw [ok.hN]; exact h1) ?_ h3 h4, h5⟩
  rw [hsc]
  rcases h2 with (h2 | h2) | h2
  · exact .inl h2
  · exact .inr (.inl h2)
  · exact .inr (.inr h2)
theorem m_var {i : Nat} : ME I T G c k N io (.var i) := by
  intro X sc Wx ex g g' l ok hsc h
  simp only [chkE] at h
  split at h
  · rename_i x pos
    split at h
    · rename_i hs
      cases h
      simp only [Bool.and_eq_true] at hs
      obtain ⟨hp, hl⟩ := slot_of ok hsc (pos := pos) hs.1
      have hio := ne_io io hs.2
      have pe : PE X (.Name x pos) (tI T G c io Wx (.var i) g (g.set i 0) 0) := by
        refine PE.of hp fun σ H Q ⟨W, ia, F, ρ, fps, hi, r, q⟩ => ?_
        have e1 : ev G c (.var i) ρ = (getV ρ i).bind fun d => .ok (d, ρ) := by simp [ev]
        rw [e1] at q
        cases hg : getV ρ i with
        | bad => rw [hg] at q; exact False.elim q
        | ex k v => exact absurd hg getV_ex
        | ok d =>
          rw [hg] at q
          obtain ⟨v, hσ, ro⟩ := r.slot i d (getV_ok hg)
          have hn : ia = none ∨ i ≠ 0 ∨ 0 = g.getD i 0 := by
            cases hia : ia with
            | none => exact .inl rfl
            | some a => exact .inr (.inl (hio (by rw [← hi, hia]; rfl)))
          obtain ⟨F1, fp1, r1, p1, s1⟩ := r.weakSlot (j := 0) hl (Nat.zero_le _) hn
          refine ⟨v, hσ, ?_⟩
          obtain ⟨v', hσ', ro'⟩ := r1.slot i d (getV_ok hg)
          rw [hσ] at hσ'; cases hσ'
          have z : (g.set i 0).getD i 0 = 0 := by rw [getD_set g hl, if_pos rfl]
          rw [z] at ro'
          exact q v F1 H (setF fps i fp1) [] r1 p1 (.frz ro'.zero) New.nil
      exact ⟨pe, tT_of ok.hK pe rfl⟩
    · cases h
  · cases h
theorem m_glo {i : Nat} : ME I T G c k N io (.glo i) := by
  intro X sc Wx ex g g' l ok hsc h
  simp only [chkE] at h
  split at h
  · rename_i x pos
    split at h
    · rename_i hs
      cases h
      simp only [Bool.and_eq_true, decide_eq_true_eq] at hs
      obtain ⟨h1, h2, h3⟩ := gl_of hsc hs.2
      obtain ⟨v, u, d, e1, e2, e3, e4⟩ := ok.gl _ _ hs.1
      have pe : PE X (.Name x pos) (tI T G c io Wx (.glo i) g g 0) := by
        refine PE.of (pe_glob h1 e2 e3 h2) fun σ H Q ⟨W, ia, F, ρ, fps, hi, r, q⟩ => ?_
        have e1' : ev G c (.glo i) ρ = .ok (d, ρ) := by simp [ev, e1]
        rw [e1'] at q
        exact q v F H fps [] r Pres.refl (.frz (e4 F)) New.nil
      exact ⟨pe, tT_of ok.hK pe rfl⟩
    · cases h
  · cases h
end
end Fh
end
section
set_option maxRecDepth 100000
set_option maxHeartbeats 2000000
/-! Built-ins, and | or, conditional values, displays. -/
namespace Fh
open PySem PySem.Spec PyProof.Rows L2

section
variable {I : Info} {T : Tb} {G : Nat → R D} {c : Callee} {k : Nat} {N : List Str} {io : Bool} {X : Cx} {sc : Scope} {Wx : WX} {g g' : Lv} {ex : Expr} {e : E} {es : Es}
/-- a test of what is a bool -/
theorem tT_tI {l : Nat} (hb : ∀ ρ d ρ', ev G c e ρ = .ok (d, ρ') → ∃ b, d = .bool b) {σ : L2.St} {H : Hp} {Q : Bool → Hp → Prop} (h : tT T G c io Wx e g g' σ H Q) : tI T G c io Wx e g g' l σ H fun v H' => ∃ b, v = .bl b ∧ Q b H' := by
  obtain ⟨W, ia, F, ρ, fps, hi, r, q⟩ := h
  refine ⟨W, ia, F, ρ, fps, hi, r, ?_⟩
  unfold TPost at q
  unfold EPost
  split at q
  · rename_i d ρ' he
    obtain ⟨b, rfl⟩ := hb _ _ _ he
    obtain ⟨b', e1, q⟩ := q
    cases e1
    intro v F' H' fps' fp a1 a2 a3 a4
    have hv : v = .bl b := by
      cases a3 with
      | frz r => cases r; rfl
      | sc _ r => cases r; rfl
    exact ⟨b, hv, q F' H' fps' a1 a2⟩
  · exact q
  · exact q
theorem ev_prim_ok {p : Prim} {ρ ρ' : DEnv} {d : D} (h : ev G c (.prim p es) ρ = .ok (d, ρ')) : ∃ ds, evOps G c es ρ = .ok (ds, ρ') ∧ primR p ds = .ok d := by
  have e1 : ev G c (.prim p es) ρ = (evOps G c es ρ).bind fun (ds, ρ1) => (prim p ds).bind fun d => .ok (d, ρ1) := by simp [ev]
  rw [e1] at h
  obtain ⟨⟨ds, ρ1⟩, h1, h⟩ := R.bind_eq_ok h
  obtain ⟨d', h2, h⟩ := R.bind_eq_ok h
  cases h
  exact ⟨ds, h1, prim_ok h2⟩
theorem pCmp_bool {q : Int → Int → Bool} {a b d : D} (h : pCmp q a b = .ok d) : ∃ x, d = .bool x := by
  unfold pCmp at h; split at h
  · cases h; exact ⟨_, rfl⟩
  · cases h
theorem pEq_bool {a b d : D} (h : pEq a b = .ok d) : ∃ x, d = .bool x := by
  unfold pEq at h; split at h
  · cases h; exact ⟨_, rfl⟩
  · cases h
theorem pIs_bool {a b d : D} (h : pIs a b = .ok d) : ∃ x, d = .bool x := by
  unfold pIs at h; split at h
  · cases h; exact ⟨_, rfl⟩
  · cases h; exact ⟨_, rfl⟩
  · cases h
theorem pNot_b {a d : D} (h : pNot a = .ok d) : ∃ x, d = .bool x := by
  unfold pNot at h
  obtain ⟨b, _, h⟩ := R.bind_eq_ok h
  cases h; exact ⟨_, rfl⟩
theorem cmp_bool {p : Prim} {op : CmpOp} (hp : cmpP p op = true) {ds : List D} {d : D} (h : primR p ds = .ok d) : ∃ b, d = .bool b := by
  have two : ∃ a b, ds = [a, b] := by
    cases p <;> first | (simp [cmpP] at hp; done) | skip
    all_goals
      match ds, h with
      | [], h => cases h
      | [a], h => cases h
      | [a, b], _ => exact ⟨a, b, rfl⟩
      | a :: b :: z :: r, h => cases h
  obtain ⟨a, b, rfl⟩ := two
  cases p <;> first | (simp [cmpP] at hp; done) | skip
  case lt => exact pCmp_bool h
  case le => exact pCmp_bool h
  case gt => exact pCmp_bool h
  case ge => exact pCmp_bool h
  case eq => exact pEq_bool h
  case ne =>
    obtain ⟨z, _, h2⟩ := R.bind_eq_ok (show (pEq a b).bind pNot = .ok d from h)
    exact pNot_b h2
  case isin => exact pIn_bool h
  case notin =>
    obtain ⟨z, _, h2⟩ := R.bind_eq_ok (show (pIn a b).bind pNot = .ok d from h)
    exact pNot_b h2
  case isq => exact pIs_bool h
  case isnot =>
    obtain ⟨z, _, h2⟩ := R.bind_eq_ok (show (pIs a b).bind pNot = .ok d from h)
    exact pNot_b h2
/-- the operator of a comparison, by the built-in -/
theorem or_all (ok : Ok I T G c k N Wx X) {p : Prim} {op : CmpOp} (hp : cmpP p op = true) : OpR X (compareOp op) (fun x y H Q => rP T p [x, y] H Q) := by
  have hu := ok.rm.units
  have hu5 : X.A.units + 65 < cLine := by have := ok.rm.un; omega
  cases p <;> cases op <;> first | (simp [cmpP] at hp; done) | skip
  · exact or_lt
  · exact or_le
  · exact or_gt
  · exact or_ge
  · exact or_eq ok.hK hu
  · exact or_ne ok.hK hu
  · exact or_in ok.hK hu5
  · exact or_notin ok.hK hu5
  · exact or_is
  · exact or_isnot
theorem s_cmpT (ok : Ok I T G c k N Wx X) {p : Prim} {op : CmpOp} {a b : Expr} {pos : Pos} (hc : cmpP p op = true) (hp : POps T G c io Wx X es [a, b] g g') (hb : noSet b = true) : PT X (.Compare a [op] [b] pos) (tT T G c io Wx (.prim p es) g (outL p es g')) := by
  obtain ⟨ta, tb, h1, h2, ma, mb, _, _, q⟩ := hp.two
  refine PT.of (pt_cmpR (or_all ok hc) h1 h2 (noSet_mark hb)) fun σ H Q h => q σ H _ (tI_prim hp.vars (tT_tI (l := p.lv) ?_ h))
  intro ρ d ρ' he
  obtain ⟨ds, _, h2⟩ := ev_prim_ok he
  exact cmp_bool hc h2
theorem s_notT (hp : PT X ex (tTo T G c io Wx es g g')) {pos : Pos} : PT X (.UnaryOp .Not ex pos) (tT T G c io Wx (.prim .not es) g (outL .not es g')) := by
  refine PT.of (pt_not hp) fun σ H Q h => ?_
  obtain ⟨W, ia, F, ρ, fps, hi, r, q⟩ := h
  refine ⟨W, ia, F, ρ, fps, hi, r, ?_⟩
  have e1 : ev G c (.prim .not es) ρ = (evOps G c es ρ).bind fun (ds, ρ1) => (prim .not ds).bind fun d => .ok (d, ρ1) := by simp [ev]
  rw [e1] at q
  cases hs : evOps G c es ρ with
  | bad => simp [hs] at q; exact q
  | ex k v => simp [hs] at q; exact q
  | ok z =>
    obtain ⟨ds, ρ1⟩ := z
    simp [hs] at q
    cases hq : prim .not ds with
    | bad => rw [hq] at q; exact False.elim q
    | ex k v => exact absurd hq prim_ne_ex
    | ok d =>
      rw [hq] at q
      have h2 := prim_ok hq
      match ds, h2 with
      | [], h2 => cases h2
      | a :: b :: z, h2 => cases h2
      | [a], h2 =>
        obtain ⟨b, e2, e3⟩ := R.bind_eq_ok (show (truth a).bind (fun b => R.ok (D.bool (!b))) = .ok d from h2)
        cases e3
        obtain ⟨b', e4, q⟩ := (show ∃ b', truth (.bool !b) = .ok b' ∧ _ from q)
        cases e4
        exact ⟨a, b, rfl, e2, q⟩

theorem m_prim {p : Prim} (ih : MEs I T G c k N io es) : ME I T G c k N io (.prim p es) := by
  intro X sc Wx ex g g' l ok hsc h
  simp only [chkE] at h
  split at h
  · rename_i exs ho
    obtain ⟨g1, h1, h⟩ := bind_some h
    cases h
    have hp := (ih ok hsc).1 _ _ _ h1
    have pe := sPrim ok hsc ho hp
    refine ⟨pe, ?_⟩
    by_cases hpl : plainT ex = true
    · exact tT_of ok.hK pe hpl
    · unfold opsOf at ho
      split at ho <;> first | (exact absurd rfl hpl) | skip
      · split at ho
        · rename_i hc
          cases ho
          simp only [Bool.and_eq_true] at hc
          exact s_cmpT ok hc.1 hp hc.2
        · cases ho
      · rename_i op a pos
        split at ho
        · rename_i hc
          cases ho
          cases p <;> cases op <;> first | (simp [unP] at hc; done) | (exact absurd rfl hpl) | skip
          exact s_notT ((ih ok hsc).2.2.2.2 _ _ _ h1)
        · cases ho
      · cases ho
  · cases h

/-! ### and, or -/
theorem m_bop {b : Bool} (ih : MEs I T G c k N io es) : ME I T G c k N io (.bop b es) := by
  intro X sc Wx ex g g' l ok hsc h
  simp only [chkE] at h
  split at h
  · split at h
    · rename_i hb
      obtain ⟨h1, h2⟩ := (ih ok hsc).2.2.1 b _ _ _ _ _ _ hb h
      refine ⟨PE.of h1 fun σ H Q q => ?_, (PW.of h2 fun σ H Q q => ?_).pt⟩
      · obtain ⟨W, ia, F, ρ, fps, hi, r, q⟩ := q
        exact ⟨W, ia, F, ρ, fps, hi, r, by simpa [ev] using q⟩
      · obtain ⟨W, ia, F, ρ, fps, hi, r, q⟩ := q
        exact ⟨W, ia, F, ρ, fps, hi, r, by simpa [ev] using q⟩
    · cases h
  · cases h

/-! ### a if t else b -/
theorem RO.down {F H : Hp} {σ : L2.St} {ρ : DEnv} {fps : Nat → List Addr} {W : Addr → Prop} {ia : Option Addr} {l m : Nat} {v : V} {d : D} {fp : List Addr} {Q : VK} (hm : m ≤ l)
    (h : ∀ F' fp', Rel T W ia F' H σ ρ g fps → Pres W F H F' H → RO T F' H m v d fp' → New W F' H fps fp' → Q v H) (r : Rel T W ia F H σ ρ g fps) (o : RO T F H l v d fp) (n : New W F H fps fp) : Q v H := by
  obtain ⟨F', fp', r', p', n', o'⟩ := r.weakNew n o hm
  exact h F' fp' r' p' o' n'
/-- a reading's level and levels may fall -/
theorem EPost.weak {W : Addr → Prop} {ia : Option Addr} {F H : Hp} {σ : L2.St} {Q : VK} {l m : Nat} {g1 : Lv} {x : R (D × DEnv)} (hi : ia.isSome = io) (hm : m ≤ l) (hg : LeC io g' g1) (h : EPost T W ia g' m F H Wx σ Q x) : EPost T W ia g1 l F H Wx σ Q x := by
  unfold EPost at h ⊢
  split at h
  · intro v F' H' fps' fp a1 a2 a3 a4
    obtain ⟨F1, fp1, r1, p1, n1, o1⟩ := a1.weakNew a4 a3 hm
    obtain ⟨F2, fps2, r2, p2, s2⟩ := (r1.hold n1).weakAll hg hi
    refine h v F2 H' fps2 fp1 (r2.monoW fun _ => addW_l) ((a2.trans p1).trans (p2.mono fun _ => addW_l)) (o1.stab p2.f (n1.here p2)) ?_
    exact ⟨n1.nd, fun a m => ⟨(n1.ok a m).1, fun i z => (n1.ok a m).2.1 i (s2 i a z), (n1.ok a m).2.2.1, p2.n a (.inr m) (n1.ok a m).2.2.2⟩⟩
  · exact h
  · exact h
theorem EPost.step {W : Addr → Prop} {ia : Option Addr} {F H F1 H1 : Hp} {σ : L2.St} {Q : VK} {l : Nat} {g1 : Lv} {x : R (D × DEnv)} (p : Pres W F H F1 H1) (h : EPost T W ia g1 l F H Wx σ Q x) : EPost T W ia g1 l F1 H1 Wx σ Q x := by
  unfold EPost at h ⊢
  split at h
  · exact fun v F' H' fps' fp a1 a2 a3 a4 => h v F' H' fps' fp a1 (p.trans a2) a3 a4
  · exact XPost.step h p fun _ h => h
  · exact h
theorem TPost.weak {W : Addr → Prop} {ia : Option Addr} {F H : Hp} {σ : L2.St} {Q : Bool → Hp → Prop} {g1 : Lv} {x : R (D × DEnv)} (hi : ia.isSome = io) (hg : LeC io g' g1) (h : TPost T Wx W ia g' F H σ Q x) : TPost T Wx W ia g1 F H σ Q x := by
  unfold TPost at h ⊢
  split at h
  · obtain ⟨b, e, h⟩ := h
    refine ⟨b, e, fun F' H' fps' a1 a2 => ?_⟩
    obtain ⟨F2, fps2, r2, p2, s2⟩ := a1.weakAll hg hi
    exact h F2 H' fps2 r2 (a2.trans p2)
  · exact h
  · exact h
theorem TPost.step {W : Addr → Prop} {ia : Option Addr} {F H F1 H1 : Hp} {σ : L2.St} {Q : Bool → Hp → Prop} {g1 : Lv} {x : R (D × DEnv)} (p : Pres W F H F1 H1) (h : TPost T Wx W ia g1 F H σ Q x) : TPost T Wx W ia g1 F1 H1 σ Q x := by
  unfold TPost at h ⊢
  split at h
  · obtain ⟨b, e, h⟩ := h
    exact ⟨b, e, fun F' H' fps' a1 a2 => h F' H' fps' a1 (p.trans a2)⟩
  · exact XPost.step h p fun _ h => h
  · exact h
theorem pt_ifExp {ct ca cb : Expr} {pos : Pos} {tA tB tC : TT} (hc : PT X ct tA) (ha : PT X ca tB) (hb : PT X cb tC) : PT X (.IfExp ct ca cb pos) (fun σ H Q => tA σ H fun d H1 => if d = true then tB σ H1 Q else tC σ H1 Q) := by
  refine ⟨fun pins s σ H Q I h => ?_⟩
  refine wpAny_bind (m := isTrue ct X.env (eval ct X.env)) (thn (hc.run pins s σ H _ I h) fun d s1 ⟨H1, I1, q1⟩ => ?_)
  cases d with
  | true => exact ha.run pins s1 σ H1 Q I1 q1
  | false => exact hb.run pins s1 σ H1 Q I1 q1
theorem m_ife {t a b : E} (i1 : ME I T G c k N io t) (i2 : ME I T G c k N io a) (i3 : ME I T G c k N io b) : ME I T G c k N io (.ife t a b) := by
  intro X sc Wx ex g g' l ok hsc h
  simp only [chkE] at h
  split at h
  · rename_i et ea eb pos
    obtain ⟨⟨l1, g1⟩, h1, h⟩ := bind_some h
    obtain ⟨⟨l2, g2⟩, h2, h⟩ := bind_some h
    obtain ⟨⟨l3, g3⟩, h3, h⟩ := bind_some h
    cases h
    have c2 := le_all I N io a h2
    have c3 := le_all I N io b h3
    have p1 := (i1 ok hsc h1).2
    have p2 := (i2 ok hsc h2).1
    have p3 := (i3 ok hsc h3).1
    have pe : PE X (.IfExp et ea eb pos) (tI T G c io Wx (.ife t a b) g g3 (min l2 l3)) := by
      refine PE.of (pe_ifExp p1 p2 p3) fun σ H Q q => ?_
      obtain ⟨W, ia, F, ρ, fps, hi, r, q⟩ := q
      have e1 : ev G c (.ife t a b) ρ = (ev G c t ρ).bind fun (d, ρ1) => (truth d).bind fun k => if k then ev G c a ρ1 else ev G c b ρ1 := by simp [ev]
      rw [e1] at q
      refine ⟨W, ia, F, ρ, fps, hi, r, ?_⟩
      cases hs : ev G c t ρ with
      | bad => rw [hs] at q; exact q
      | ex k v => rw [hs] at q; exact q
      | ok z =>
        obtain ⟨d, ρ1⟩ := z
        rw [hs] at q
        cases ht : truth d with
        | bad => simp [ht] at q; exact False.elim q
        | ex k v => exact absurd ht truth_ex
        | ok kb =>
          simp [ht] at q
          refine ⟨kb, ht, fun F' H' fps' a1 a2 => ?_⟩
          cases kb with
          | true =>
            rw [if_pos rfl] at q ⊢
            obtain ⟨F2, fps2, r2, pp2, s2⟩ := a1.weakAll (LeC.refl g1) hi
            exact ⟨W, ia, F2, ρ1, fps2, hi, r2, (q.weak hi (Nat.min_le_left _ _) c3).step (a2.trans pp2)⟩
          | false =>
            rw [if_neg (by decide)] at q ⊢
            obtain ⟨F2, fps2, r2, pp2, s2⟩ := a1.weakAll c2 hi
            exact ⟨W, ia, F2, ρ1, fps2, hi, r2, (q.weak hi (Nat.min_le_right _ _) (LeC.refl _)).step (a2.trans pp2)⟩
    refine ⟨pe, PT.of (pt_ifExp p1 (i2 ok hsc h2).2 (i3 ok hsc h3).2) fun σ H Q q => ?_⟩
    obtain ⟨W, ia, F, ρ, fps, hi, r, q⟩ := q
    have e1 : ev G c (.ife t a b) ρ = (ev G c t ρ).bind fun (d, ρ1) => (truth d).bind fun k => if k then ev G c a ρ1 else ev G c b ρ1 := by simp [ev]
    rw [e1] at q
    refine ⟨W, ia, F, ρ, fps, hi, r, ?_⟩
    cases hs : ev G c t ρ with
    | bad => rw [hs] at q; exact q
    | ex k v => rw [hs] at q; exact q
    | ok z =>
      obtain ⟨d, ρ1⟩ := z
      rw [hs] at q
      cases ht : truth d with
      | bad => simp [ht] at q; exact False.elim q
      | ex k v => exact absurd ht truth_ex
      | ok kb =>
        simp [ht] at q
        refine ⟨kb, ht, fun F' H' fps' a1 a2 => ?_⟩
        cases kb with
        | true =>
          rw [if_pos rfl] at q ⊢
          obtain ⟨F2, fps2, r2, pp2, s2⟩ := a1.weakAll (LeC.refl g1) hi
          exact ⟨W, ia, F2, ρ1, fps2, hi, r2, (TPost.weak hi c3 q).step (a2.trans pp2)⟩
        | false =>
          rw [if_neg (by decide)] at q ⊢
          obtain ⟨F2, fps2, r2, pp2, s2⟩ := a1.weakAll c2 hi
          exact ⟨W, ia, F2, ρ1, fps2, hi, r2, q.step (a2.trans pp2)⟩
  · cases h
end
end Fh
end
section
set_option maxRecDepth 100000
set_option maxHeartbeats 2000000
/-! Displays, chains, operand lists. -/
namespace Fh
open PySem PySem.Spec PyProof.Rows L2

section
variable {I : Info} {T : Tb} {G : Nat → R D} {c : Callee} {k : Nat} {N : List Str} {io : Bool} {X : Cx} {sc : Scope} {Wx : WX} {g g' g1 : Lv} {ex : Expr} {e : E} {es : Es} {W : Addr → Prop} {ia : Option Addr} {F H : Hp} {σ : L2.St} {Q : VK} {l : Nat}

theorem s_low (pe : PE X ex (tI T G c io Wx e g g' l)) : PE X ex (tI T G c io Wx e g g' 0) :=
  PE.of pe fun σ H Q ⟨W, ia, F, ρ, fps, hi, r, q⟩ => ⟨W, ia, F, ρ, fps, hi, r, EPost.weak hi (Nat.zero_le _) (LeC.refl _) q⟩
theorem EPost.mono {Q' : VK} {x : R (D × DEnv)} (m : ∀ v H', Q v H' → Q' v H') (h : EPost T W ia g' l F H Wx σ Q x) : EPost T W ia g' l F H Wx σ Q' x := by
  unfold EPost at h ⊢
  split at h
  · exact fun v F' H' fps' fp a1 a2 a3 a4 => m _ _ (h v F' H' fps' fp a1 a2 a3 a4)
  · exact h
  · exact h
/-- one part's value, frozen; the rest -/
theorem EPost.seq0 {x : R (D × DEnv)} {K : D × DEnv → R (D × DEnv)} (h : EPost T W ia g' l F H Wx σ Q (x.bind K)) :
    EPost T W ia g1 0 F H Wx σ (fun v H1 => ∃ F1 ρ1 fps1 d, Rel T W ia F1 H1 σ ρ1 g1 fps1 ∧ RD T F1 v d ∧ Le F F1 ∧ EPost T W ia g' l F1 H1 Wx σ Q (K (d, ρ1))) x := by
  cases x with
  | bad => exact h
  | ex k v => exact h
  | ok z =>
    obtain ⟨d, ρ1⟩ := z
    intro v F' H' fps' fp a1 a2 a3 a4
    exact ⟨F', ρ1, fps', d, a1, a3.zero, a2.f, EPost.step a2 h⟩

theorem evs_len : ∀ {es : Es} {ρ ρ' : DEnv} {ds : List D}, evs G c es ρ = .ok (ds, ρ') → ds.length = es.len
  | .nil, ρ, ρ', ds, h => by simp [evs] at h; simp [h.1.symm, Es.len]
  | .cons e es, ρ, ρ', ds, h => by
    have e1 : evs G c (.cons e es) ρ = (ev G c e ρ).bind fun (d, ρ1) => (evs G c es ρ1).bind fun (ds, ρ2) => .ok (d :: ds, ρ2) := by simp [evs]
    rw [e1] at h
    obtain ⟨⟨d, ρ1⟩, h1, h⟩ := R.bind_eq_ok h
    obtain ⟨⟨ds', ρ2⟩, h2, h⟩ := R.bind_eq_ok h
    cases h
    simp [evs_len h2, Es.len]
theorem ROs.length : ∀ {k : Nat} {vs : List V} {ds : List D} {fp : List Addr}, ROs T F H k vs ds fp → vs.length = ds.length
  | _, _, _, _, .nil => rfl
  | _, _, _, _, .cons _ s => by simp [ROs.length s]

/-- a new object among the others -/
theorem new_cons {F' H' : Hp} {fps' : Nat → List Addr} {ρ' : DEnv} {fp : List Addr} {p : Addr} {o : HO} (r : Rel T W ia F' H' σ ρ' g' fps') (n : New W F' H' fps' fp) (hp : H' p = none) : New W F' (upd H' p o) fps' (p :: fp) := by
  refine ⟨List.nodup_cons.mpr ⟨fun m => (n.ok p m).2.2.1 hp, n.nd⟩, fun a m => ?_⟩
  rcases List.mem_cons.mp m with rfl | m
  · exact ⟨fun w => r.held a w hp, fun i z => (r.own i a z).1 hp, by rw [upd_same]; simp, none_of_le r.sub hp⟩
  · obtain ⟨h1, h2, h3, h4⟩ := n.ok a m
    exact ⟨h1, h2, by rw [upd_ne (ne_of_none' h3 hp)]; exact h3, h4⟩
where
  ne_of_none' {H' : Hp} {a p : Addr} (h : H' a ≠ none) (hp : H' p = none) : a ≠ p := fun e => h (by rw [e]; exact hp)
theorem upd_at {H' : Hp} {a p : Addr} {o : HO} (h : H' a ≠ none) (hp : H' p = none) : upd H' p o a = H' a := upd_ne fun e => h (by rw [e]; exact hp)

theorem rd_lst {m : Nat} (hm : 1 ≤ l) (hl : l - 1 = m) (hn : es.len ≤ 4096) (h : tI T G c io Wx (.lst es) g g' l σ H Q) : tLst (tEs T G c io Wx es g g' m) σ H Q := by
  subst hl
  obtain ⟨W, ia, F, ρ, fps, hi, r, q⟩ := h
  have e1 : ev G c (.lst es) ρ = (evs G c es ρ).bind fun (ds, ρ1) => .ok (.list ds, ρ1) := by simp [ev]
  rw [e1] at q
  refine ⟨W, ia, F, ρ, fps, hi, r, ?_⟩
  cases hs : evs G c es ρ with
  | bad => rw [hs] at q; exact q
  | ex k v => rw [hs] at q; exact q
  | ok z =>
    obtain ⟨ds, ρ1⟩ := z
    rw [hs] at q
    intro vs F' H' fps' fp a1 a2 a3 a4
    have hlen : vs.length ≤ sizeLine := by rw [a3.length, evs_len hs]; exact Nat.le_trans hn (by decide)
    refine ⟨hlen, fun p hp => ?_⟩
    refine q (.ref p) F' _ fps' (p :: fp) (a1.ext (le_upd hp)) (a2.ext (le_upd hp) r.held) ?_ (new_cons a1 a4 hp)
    have : l = (l - 1) + 1 := by omega
    rw [this]
    exact .list upd_same (none_of_le a1.sub hp) (a3.stab (Le.refl _) fun a m => ⟨upd_at (a4.ok a m).2.2.1 hp, (a4.ok a m).2.2.2⟩)
theorem rd_tup {m : Nat} (hm : 1 ≤ l) (hl : l - 1 = m) (hn : es.len ≤ 4096) (h : tI T G c io Wx (.tup es) g g' l σ H Q) : tTup (tEs T G c io Wx es g g' m) σ H Q := by
  subst hl
  obtain ⟨W, ia, F, ρ, fps, hi, r, q⟩ := h
  have e1 : ev G c (.tup es) ρ = (evs G c es ρ).bind fun (ds, ρ1) => .ok (.tup ds, ρ1) := by simp [ev]
  rw [e1] at q
  refine ⟨W, ia, F, ρ, fps, hi, r, ?_⟩
  cases hs : evs G c es ρ with
  | bad => rw [hs] at q; exact q
  | ex k v => rw [hs] at q; exact q
  | ok z =>
    obtain ⟨ds, ρ1⟩ := z
    rw [hs] at q
    intro vs F' H' fps' fp a1 a2 a3 a4
    have hlen : vs.length ≤ sizeLine := by rw [a3.length, evs_len hs]; exact Nat.le_trans hn (by decide)
    refine ⟨hlen, fun p hp => ?_⟩
    refine q (.ref p) F' _ fps' (p :: fp) (a1.ext (le_upd hp)) (a2.ext (le_upd hp) r.held) ?_ (new_cons a1 a4 hp)
    have : l = (l - 1) + 1 := by omega
    rw [this]
    exact .tup upd_same (none_of_le a1.sub hp) (a3.stab (Le.refl _) fun a m => ⟨upd_at (a4.ok a m).2.2.1 hp, (a4.ok a m).2.2.2⟩)
theorem m_lst (ih : MEs I T G c k N io es) : ME I T G c k N io (.lst es) := by
  intro X sc Wx ex g g' l ok hsc h
  simp only [chkE] at h
  split at h
  · rename_i exs pos
    split at h
    · cases h
    · rename_i hn
      obtain ⟨⟨m, g1⟩, h1, h⟩ := bind_some h
      cases h
      have pa := ((ih ok hsc).2.1 _ _ _ _ (min 9 (m + 1) - 1) h1 (by omega)).1
      have pe := PE.of (pe_lst (pos := pos) pa) (fun σ H Q q => rd_lst (by omega) rfl (by omega) q)
      exact ⟨pe, tT_of ok.hK pe rfl⟩
  · cases h
theorem m_tup (ih : MEs I T G c k N io es) : ME I T G c k N io (.tup es) := by
  intro X sc Wx ex g g' l ok hsc h
  simp only [chkE] at h
  split at h
  · rename_i exs x1 pos
    split at h
    · cases h
    · rename_i hn
      obtain ⟨⟨m, g1⟩, h1, h⟩ := bind_some h
      cases h
      have pa := ((ih ok hsc).2.1 _ _ _ _ (min 9 (m + 1) - 1) h1 (by omega)).1
      have pe := PE.of (pe_tup (x1 := x1) (pos := pos) pa) (fun σ H Q q => rd_tup (by omega) rfl (by omega) q)
      exact ⟨pe, tT_of ok.hK pe rfl⟩
  · cases h
theorem m_dct : ME I T G c k N io .dct := by
  intro X sc Wx ex g g' l ok hsc h
  simp only [chkE] at h
  split at h
  · cases h
    rename_i pos
    have pe : PE X (.Dict [] [] pos) (tI T G c io Wx .dct g g 9) := by
      refine PE.of pe_dnewK fun σ H Q ⟨W, ia, F, ρ, fps, hi, r, q⟩ => ?_
      have e1 : ev G c .dct ρ = .ok (.dict [] [], ρ) := by simp [ev]
      rw [e1] at q
      intro p hp
      refine q (.ref p) F _ fps [p] (r.ext (le_upd hp)) (Pres.refl.ext (le_upd hp) r.held) ?_ (new_cons r New.nil hp)
      exact RO.dict (kvs := []) (k := 8) upd_same (none_of_le r.sub hp) .nil
    exact ⟨pe, tT_of ok.hK pe rfl⟩
  · cases h

/-! ### chains -/
theorem prim_bool {p : Prim} {op : CmpOp} (hp : cmpP p op = true) {ds : List D} : (∃ b, prim p ds = .ok (.bool b)) ∨ prim p ds = .bad := by
  cases hq : prim p ds with
  | bad => exact .inr rfl
  | ex k v => exact absurd hq prim_ne_ex
  | ok d =>
    obtain ⟨b, rfl⟩ := cmp_bool hp (prim_ok hq)
    exact .inl ⟨b, rfl⟩
theorem RO.bl {k : Nat} {v : V} {b : Bool} {fp : List Addr} (h : RO T F H k v (.bool b) fp) : v = .bl b := by
  cases h with
  | frz r => cases r; rfl
  | sc _ r => cases r; rfl
theorem use_bool {p : Prim} {op : CmpOp} (hp : cmpP p op = true) {ρ1 : DEnv} {fps : Nat → List Addr} (r : Rel T W ia F H σ ρ1 g fps) {v1 v2 : V} {d1 d2 : D} (r1 : RD T F v1 d1) (r2 : RD T F v2 d2) {b : Bool} (hb : prim p [d1, d2] = .ok (.bool b))
    (h : ∀ H', Le H H' → Q (.bl b) H') : rP T p [v1, v2] H Q := by
  refine ⟨F, [d1, d2], .bool b, r.sub, .cons (r1.part r.sub) (r1.le r.sub) (.cons (r2.part r.sub) (r2.le r.sub) .nil), hb, fun v H' fp hle ro _ _ => ?_⟩
  rw [ro.bl]
  exact h H' hle
theorem rd_chain {o1 o2 : Prim} {p1 p2 : CmpOp} {a b d : E} {g1 g2 g3 : Lv} (h1 : cmpP o1 p1 = true) (h2 : cmpP o2 p2 = true) (h3 : LeC io g3 g2) (h : tI T G c io Wx (.chain o1 o2 a b d) g g3 9 σ H Q) :
    tChain (fun x y H Q => rP T o1 [x, y] H Q) (fun x y H Q => rP T o2 [x, y] H Q) (tI T G c io Wx a g g1 0) (tI T G c io Wx b g1 g2 0) (tI T G c io Wx d g2 g3 0) σ H Q := by
  obtain ⟨W, ia, F, ρ, fps, hi, r, q⟩ := h
  have e1 : ev G c (.chain o1 o2 a b d) ρ = (ev G c a ρ).bind fun (x, ρ1) => (ev G c b ρ1).bind fun (y, ρ2) => (prim o1 [x, y]).bind fun r => match r with
    | .bool true => (ev G c d ρ2).bind fun (z, ρ3) => (prim o2 [y, z]).bind fun r => .ok (r, ρ3)
    | .bool false => .ok (.bool false, ρ2)
    | _ => .bad := by simp only [ev] <;> rfl
  rw [e1] at q
  refine ⟨W, ia, F, ρ, fps, hi, r, EPost.mono ?_ (EPost.seq0 q)⟩
  rintro x H1 ⟨F1, ρ1, fps1, dx, r1, rx, f1, q1⟩
  refine ⟨W, ia, F1, ρ1, fps1, hi, r1, EPost.mono ?_ (EPost.seq0 q1)⟩
  rintro y H2 ⟨F2, ρ2, fps2, dy, r2, ry, f2, q2⟩
  dsimp only at q2
  rcases prim_bool h1 (ds := [dx, dy]) with ⟨b1, hb⟩ | hb
  · rw [hb] at q2
    refine use_bool h1 r2 (rx.le f2) ry hb fun H3 hle => ⟨b1, rfl, ?_⟩
    cases b1 with
    | false =>
      rw [if_neg (by decide)]
      have q3 : EPost T W ia g2 9 F2 H2 Wx σ Q (.ok (.bool false, ρ2)) := EPost.weak hi (Nat.le_refl _) h3 q2
      exact q3 (.bl false) F2 H3 fps2 [] (r2.ext hle) (Pres.refl.ext hle r2.held) (.sc rfl (.bool _)) New.nil
    | true =>
      rw [if_pos rfl]
      refine ⟨W, ia, F2, ρ2, fps2, hi, r2.ext hle, EPost.mono ?_ (EPost.seq0 (EPost.step (Pres.refl.ext hle r2.held) q2))⟩
      rintro z H4 ⟨F4, ρ4, fps4, dz, r4, rz, f4, q4⟩
      dsimp only at q4
      rcases prim_bool h2 (ds := [dy, dz]) with ⟨b2, hb2⟩ | hb2
      · rw [hb2] at q4
        refine use_bool h2 r4 (ry.le f4) rz hb2 fun H5 hle5 => ?_
        exact q4 (.bl b2) F4 H5 fps4 [] (r4.ext hle5) (Pres.refl.ext hle5 r4.held) (.sc rfl (.bool _)) New.nil
      · rw [hb2] at q4; exact False.elim q4
  · rw [hb] at q2; exact False.elim q2
theorem last_marks {p1 p2 : CmpOp} {b d : Expr} (hd : noSet d = true) : lastMarks [p1, p2] [b, d] = false := noSet_mark hd
theorem m_chain {o1 o2 : Prim} {a b d : E} (i1 : ME I T G c k N io a) (i2 : ME I T G c k N io b) (i3 : ME I T G c k N io d) : ME I T G c k N io (.chain o1 o2 a b d) := by
  intro X sc Wx ex g g' l ok hsc h
  simp only [chkE] at h
  split at h
  · rename_i ea p1 p2 eb ed pos
    split at h
    · rename_i hc
      simp only [Bool.and_eq_true] at hc
      obtain ⟨⟨l1, g1⟩, h1, h⟩ := bind_some h
      obtain ⟨⟨l2, g2⟩, h2, h⟩ := bind_some h
      obtain ⟨⟨l3, g3⟩, h3, h⟩ := bind_some h
      cases h
      have c3 := le_all I N io d h3
      have q1 := s_low (i1 ok hsc h1).1
      have q2 := s_low (i2 ok hsc h2).1
      have q3 := s_low (i3 ok hsc h3).1
      refine ⟨PE.of (pe_chain (or_all ok hc.1.1.1) (or_all ok hc.1.1.2) q1 q2 q3 (last_marks hc.2)) fun σ H Q q => rd_chain hc.1.1.1 hc.1.1.2 c3 q, PT.of (pt_chain (or_all ok hc.1.1.1) (or_all ok hc.1.1.2) q1 q2 q3 (last_marks hc.2)) fun σ H Q q => rd_chain hc.1.1.1 hc.1.1.2 c3 (tT_tI ?_ q)⟩
      intro ρ w ρ' he
      have e1 : ev G c (.chain o1 o2 a b d) ρ = (ev G c a ρ).bind fun (x, ρ1) => (ev G c b ρ1).bind fun (y, ρ2) => (prim o1 [x, y]).bind fun r => match r with
        | .bool true => (ev G c d ρ2).bind fun (z, ρ3) => (prim o2 [y, z]).bind fun r => .ok (r, ρ3)
        | .bool false => .ok (.bool false, ρ2)
        | _ => .bad := by simp only [ev] <;> rfl
      rw [e1] at he
      obtain ⟨⟨x, ρ1⟩, _, he⟩ := R.bind_eq_ok he
      obtain ⟨⟨y, ρ2⟩, _, he⟩ := R.bind_eq_ok he
      obtain ⟨z, hz, he⟩ := R.bind_eq_ok he
      rcases prim_bool hc.1.1.1 (ds := [x, y]) with ⟨b1, hb⟩ | hb
      · rw [hb] at hz; cases hz
        cases b1 with
        | false => cases he; exact ⟨_, rfl⟩
        | true =>
          obtain ⟨⟨u, ρ3⟩, _, he⟩ := R.bind_eq_ok he
          obtain ⟨z2, hz2, he⟩ := R.bind_eq_ok he
          cases he
          exact cmp_bool hc.1.1.2 (prim_ok hz2)
      · rw [hb] at hz; cases hz
    · cases h
  · cases h

/-! ### operand lists -/
theorem mes_nil : MEs I T G c k N io .nil := by
  intro X sc Wx ok hsc
  refine ⟨?_, ?_, ?_, ?_, ?_⟩
  · intro exs g g' h
    cases exs <;> simp only [chkOps] at h <;> cases h
    exact .nil
  · intro exs g l g' m h hm
    cases exs <;> simp only [chkEs] at h <;> cases h
    refine ⟨PA.of pa_nil fun σ H Q ⟨W, ia, F, ρ, fps, hi, r, q⟩ => ?_, fun e z => by simp at z⟩
    have e1 : evs G c .nil ρ = .ok ([], ρ) := by simp [evs]
    rw [e1] at q
    exact q [] F H fps [] r Pres.refl .nil New.nil
  · intro b op pos exs g l g' hb h
    simp only [chkB] at h
    cases h
  · intro exs g g' h
    cases exs <;> simp only [chkIfs] at h <;> cases h
    refine PTs.of pts_nil fun σ H Q ⟨W, ia, F, ρ, fps, hi, r, q⟩ => ?_
    have e1 : evIfs G c .nil ρ = .ok (true, ρ) := by simp [evIfs]
    rw [e1] at q
    exact q F H fps r Pres.refl
  · intro ex g g' h
    simp only [chkOps] at h
    cases h

theorem mono_tT {Q Q' : Bool → Hp → Prop} (h : tT T G c io Wx e g g' σ H Q) (m : ∀ b H', Q b H' → Q' b H') : tT T G c io Wx e g g' σ H Q' := by
  obtain ⟨W, ia, F, ρ, fps, hi, r, q⟩ := h
  refine ⟨W, ia, F, ρ, fps, hi, r, ?_⟩
  unfold TPost at q ⊢
  split at q
  · obtain ⟨b, e, q⟩ := q
    exact ⟨b, e, fun F' H' fps' a1 a2 => m _ _ (q F' H' fps' a1 a2)⟩
  · exact q
  · exact q
theorem evB_cons {b : Bool} {e e2 : E} {ρ : DEnv} : evB G c b (.cons e (.cons e2 es)) ρ = (ev G c e ρ).bind fun (d, ρ1) => (truth d).bind fun k => if k = b then evB G c b (.cons e2 es) ρ1 else .ok (d, ρ1) := by simp only [evB]
theorem evB_one {b : Bool} {e : E} {ρ : DEnv} : evB G c b (.cons e .nil) ρ = ev G c e ρ := by simp only [evB]
theorem rd_B {b : Bool} {e e2 : E} {g1 g2 : Lv} {l m : Nat} (c2 : LeC io g2 g1) (h : tBo T G c io Wx b (.cons e (.cons e2 es)) g g2 (min l m) σ H Q) :
    tI T G c io Wx e g g1 l σ H fun x H1 => ∃ k, TruV T.K x H1 k ∧ if k = b then tBo T G c io Wx b (.cons e2 es) g1 g2 m σ H1 Q else Q x H1 := by
  obtain ⟨W, ia, F, ρ, fps, hi, r, q⟩ := h
  rw [evB_cons] at q
  refine ⟨W, ia, F, ρ, fps, hi, r, ?_⟩
  cases hs : ev G c e ρ with
  | bad => rw [hs] at q; exact q
  | ex k v => rw [hs] at q; exact q
  | ok z =>
    obtain ⟨d, ρ1⟩ := z
    rw [hs] at q
    intro v F1 H1 fps1 fp r1 p1 o1 n1
    cases ht : truth d with
    | bad => simp [ht] at q; exact False.elim q
    | ex k v => exact absurd ht truth_ex
    | ok kb =>
      simp only [ht, R.bind_ok] at q
      refine ⟨kb, o1.tru r1.sub ht, ?_⟩
      by_cases hk : kb = b
      · rw [if_pos hk] at q ⊢
        exact ⟨W, ia, F1, ρ1, fps1, hi, r1, EPost.step p1 (EPost.weak hi (Nat.min_le_right _ _) (LeC.refl _) q)⟩
      · rw [if_neg hk] at q ⊢
        have q2 : EPost T W ia g1 l F H Wx σ Q (.ok (d, ρ1)) := EPost.weak hi (Nat.min_le_left _ _) c2 q
        exact q2 v F1 H1 fps1 fp r1 p1 o1 n1
theorem rd_BT {b : Bool} {e e2 : E} {g1 g2 : Lv} {Q : Bool → Hp → Prop} (c2 : LeC io g2 g1) (h : tTB T G c io Wx b (.cons e (.cons e2 es)) g g2 σ H Q) :
    tT T G c io Wx e g g1 σ H fun k H1 => if k = b then tTB T G c io Wx b (.cons e2 es) g1 g2 σ H1 Q else Q k H1 := by
  obtain ⟨W, ia, F, ρ, fps, hi, r, q⟩ := h
  rw [evB_cons] at q
  refine ⟨W, ia, F, ρ, fps, hi, r, ?_⟩
  cases hs : ev G c e ρ with
  | bad => rw [hs] at q; exact q
  | ex k v => rw [hs] at q; exact q
  | ok z =>
    obtain ⟨d, ρ1⟩ := z
    rw [hs] at q
    cases ht : truth d with
    | bad => simp [ht] at q; exact False.elim q
    | ex k v => exact absurd ht truth_ex
    | ok kb =>
      simp only [ht, R.bind_ok] at q
      refine ⟨kb, ht, fun F1 H1 fps1 r1 p1 => ?_⟩
      by_cases hk : kb = b
      · rw [if_pos hk] at q ⊢
        exact ⟨W, ia, F1, ρ1, fps1, hi, r1, TPost.step p1 q⟩
      · rw [if_neg hk] at q ⊢
        obtain ⟨b', hb', q⟩ := TPost.weak (T := T) (Wx := Wx) (W := W) (F := F) (H := H) (σ := σ) (Q := Q) (x := .ok (d, ρ1)) hi c2 q
        rw [ht] at hb'; cases hb'
        exact q F1 H1 fps1 r1 p1
theorem rd_es {e : E} {g1 g2 : Lv} {l m : Nat} {Q : List V → Hp → Prop} (hm : m ≤ l) (h : tEs T G c io Wx (.cons e es) g g2 m σ H Q) :
    tI T G c io Wx e g g1 l σ H fun x H1 => tEs T G c io Wx es g1 g2 m σ H1 fun xs H2 => Q (x :: xs) H2 := by
  obtain ⟨W, ia, F, ρ, fps, hi, r, q⟩ := h
  have e1 : evs G c (.cons e es) ρ = (ev G c e ρ).bind fun (d, ρ1) => (evs G c es ρ1).bind fun (ds, ρ2) => .ok (d :: ds, ρ2) := by simp [evs]
  rw [e1] at q
  refine ⟨W, ia, F, ρ, fps, hi, r, EPost.weak hi hm (LeC.refl _) ?_⟩
  cases hs : ev G c e ρ with
  | bad => rw [hs] at q; exact q
  | ex k v => rw [hs] at q; exact q
  | ok z =>
    obtain ⟨d, ρ1⟩ := z
    rw [hs] at q
    intro v F1 H1 fps1 fp r1 p1 o1 n1
    refine ⟨addW W fp, ia, F1, ρ1, fps1, hi, r1.hold n1, ?_⟩
    cases hs2 : evs G c es ρ1 with
    | bad => simp [hs2] at q; exact False.elim q
    | ex k v => simp [hs2] at q; exact XPost.step (show XPost T W F H Wx σ k v from q) p1 fun _ => addW_l
    | ok z =>
      obtain ⟨ds, ρ2⟩ := z
      simp [hs2] at q
      intro vs F2 H2 fps2 fq r2 p2 o2 n2
      exact q (v :: vs) F2 H2 fps2 (fp ++ fq) (r2.monoW fun _ => addW_l) (p1.trans (p2.mono fun _ => addW_l)) (.cons (o1.stab p2.f (n1.here p2)) o2) (n1.both p2 r2 n2)
theorem rd_if {e : E} {g1 : Lv} {Q : Bool → Hp → Prop} (h : tIfs T G c io Wx (.cons e .nil) g g1 σ H Q) : tT T G c io Wx e g g1 σ H Q := by
  obtain ⟨W, ia, F, ρ, fps, hi, r, q⟩ := h
  have e1 : evIfs G c (.cons e .nil) ρ = (ev G c e ρ).bind fun (d, ρ1) => (truth d).bind fun k => if k then .ok (true, ρ1) else .ok (false, ρ1) := by simp [evIfs]
  rw [e1] at q
  refine ⟨W, ia, F, ρ, fps, hi, r, ?_⟩
  cases hs : ev G c e ρ with
  | bad => rw [hs] at q; exact q
  | ex k v => rw [hs] at q; exact q
  | ok z =>
    obtain ⟨d, ρ1⟩ := z
    rw [hs] at q
    cases ht : truth d with
    | bad => simp [ht] at q; exact False.elim q
    | ex k v => exact absurd ht truth_ex
    | ok kb =>
      simp only [ht, R.bind_ok] at q
      refine ⟨kb, ht, fun F1 H1 fps1 r1 p1 => ?_⟩
      cases kb with
      | true => exact (show IfPost T Wx W ia g1 F H σ Q (.ok (true, ρ1)) from q) F1 H1 fps1 r1 p1
      | false => exact (show IfPost T Wx W ia g1 F H σ Q (.ok (false, ρ1)) from q) F1 H1 fps1 r1 p1
theorem rd_to {e : E} {g1 : Lv} {Q : Bool → Hp → Prop} (hv : notVar e = true) (h : tTo T G c io Wx (.cons e .nil) g g1 σ H Q) : tT T G c io Wx e g g1 σ H Q := by
  obtain ⟨W, ia, F, ρ, fps, hi, r, q⟩ := h
  have e1 : evOps G c (.cons e .nil) ρ = (ev G c e ρ).bind fun (d, ρ1) => .ok ([d], ρ1) := by
    cases e <;> first | (simp [notVar] at hv; done) | simp [evOps]
  rw [e1] at q
  refine ⟨W, ia, F, ρ, fps, hi, r, ?_⟩
  cases hs : ev G c e ρ with
  | bad => rw [hs] at q; exact q
  | ex k v => rw [hs] at q; exact q
  | ok z =>
    obtain ⟨d, ρ1⟩ := z
    rw [hs] at q
    obtain ⟨d', b, e1, e2, q⟩ := (show ToPost T Wx W ia g1 F H σ Q (.ok ([d], ρ1)) from q)
    cases e1
    exact ⟨b, e2, q⟩
theorem rd_toV {i : Nat} {g1 : Lv} {Q : Bool → Hp → Prop} (hK : X.K = T.K) (c1 : LeC io g1 g) (h : tTo T G c io Wx (.cons (.var i) .nil) g g1 σ H Q) : tVar i σ H fun v H' => ∃ b, TruV X.K v H' b ∧ Q b H' := by
  obtain ⟨W, ia, F, ρ, fps, hi, r, q⟩ := h
  have e1 : evOps G c (.cons (.var i) .nil) ρ = (getV ρ i).bind fun d => (getV ρ i).bind fun d => .ok ([d], ρ) := by simp [evOps]
  rw [e1] at q
  cases hg : getV ρ i with
  | bad => rw [hg] at q; exact False.elim q
  | ex k v => exact absurd hg getV_ex
  | ok d =>
    rw [hg] at q
    obtain ⟨d', b, e1, e2, q⟩ := (show ToPost T Wx W ia g1 F H σ Q (.ok ([d], ρ)) from q)
    cases e1
    obtain ⟨v, hσ, ro⟩ := r.slot i d (getV_ok hg)
    obtain ⟨F2, fps2, r2, p2, s2⟩ := r.weakAll c1 hi
    exact ⟨v, hσ, b, by rw [hK]; exact ro.tru r.sub e2, q F2 H fps2 r2 p2⟩
theorem mes_cons {e : E} (i1 : ME I T G c k N io e) (i2 : MEs I T G c k N io es) : MEs I T G c k N io (.cons e es) := by
  intro X sc Wx ok hsc
  obtain ⟨j1, j2, j3, j4, j5⟩ := i2 ok hsc
  have first : ∀ exs g g', chkOps I N io sc (.cons e es) exs g = some g' → POps T G c io Wx X (.cons e es) exs g g' := by
    intro exs g g' h
    cases exs with
    | nil => cases e <;> simp only [chkOps] at h <;> cases h
    | cons ex exs =>
      by_cases hv : notVar e = true
      · have e1 : chkOps I N io sc (.cons e es) (ex :: exs) g = if noStar ex then (chkE I N io sc e ex g).bind fun (_, g1) => chkOps I N io sc es exs g1 else none := by
          cases e <;> first | (simp [notVar] at hv; done) | rfl
        rw [e1] at h
        split at h
        · rename_i hst
          obtain ⟨⟨l1, g1⟩, h1, h⟩ := bind_some h
          exact .tmp hst hv (i1 ok hsc h1).1 (j1 _ _ _ h)
        · cases h
      · cases e <;> first | (simp [notVar] at hv; done) | skip
        rename_i i
        simp only [chkOps] at h
        split at h
        · split at h
          · rename_i x pos hs
            obtain ⟨g2, h2, h⟩ := bind_some h
            split at h
            · rename_i hl
              cases h
              obtain ⟨hp, hl2⟩ := slot_of ok hsc (pos := pos) hs
              exact .var rfl hp hl2 (by simpa using hl) (j1 _ _ _ h2)
            · cases h
          · cases h
        · cases h
  refine ⟨first, ?_, ?_, ?_, ?_⟩
  · intro exs g l g' m h hm
    cases exs with
    | nil => simp only [chkEs] at h; cases h
    | cons ex exs =>
      simp only [chkEs] at h
      split at h
      · rename_i hst
        obtain ⟨⟨l1, g1⟩, h1, h⟩ := bind_some h
        obtain ⟨⟨l2, g2⟩, h2, h⟩ := bind_some h
        cases h
        obtain ⟨k1, k2⟩ := j2 _ _ _ _ m h2 (by omega)
        refine ⟨PA.of (pa_cons (i1 ok hsc h1).1 k1 (star_of hst)) fun σ H Q q => rd_es (by omega) q, fun e z => ?_⟩
        rcases List.mem_cons.mp z with rfl | z
        · exact hst
        · exact k2 e z
      · cases h
  · intro b op pos exs g l g' hb h
    cases exs with
    | nil => cases es <;> simp only [chkB] at h <;> cases h
    | cons ex exs =>
      cases es with
      | nil =>
        cases exs with
        | cons ex2 exs =>
          simp only [chkB] at h
          obtain ⟨_, _, h⟩ := bind_some h
          obtain ⟨_, h2, h⟩ := bind_some h
          cases h2
        | nil =>
          simp only [chkB] at h
          obtain ⟨h1, h2⟩ := i1 ok hsc h
          refine ⟨PE.of (pe_one h1) fun σ H Q ⟨W, ia, F, ρ, fps, hi, r, q⟩ => ⟨W, ia, F, ρ, fps, hi, r, by rw [evB_one] at q; exact q⟩, ?_⟩
          cases op with
          | And => exact PW.of (pw_and1 h2) fun σ H Q ⟨W, ia, F, ρ, fps, hi, r, q⟩ => ⟨W, ia, F, ρ, fps, hi, r, by rw [evB_one] at q; exact q⟩
          | Or => exact PW.of (pw_or1 h2) fun σ H Q ⟨W, ia, F, ρ, fps, hi, r, q⟩ => ⟨W, ia, F, ρ, fps, hi, r, by rw [evB_one] at q; exact q⟩
      | cons e2 es =>
        cases exs with
        | nil => simp only [chkB] at h; cases h
        | cons ex2 exs =>
          simp only [chkB] at h
          obtain ⟨⟨l1, g1⟩, h1, h⟩ := bind_some h
          obtain ⟨⟨l2, g2⟩, h2, h⟩ := bind_some h
          cases h
          obtain ⟨k1, k2⟩ := i1 ok hsc h1
          obtain ⟨k3, k4⟩ := j3 b op pos _ _ _ _ hb h2
          have c2 : LeC io g2 g1 := (les_all I N io (.cons e2 es)).2.2.1 h2
          cases op with
          | And =>
            obtain rfl : b = true := hb
            refine ⟨PE.of (pe_andT k1 k3) fun σ H Q q => ?_, PW.of (pw_and k2 k4) fun σ H Q q => ?_⟩
            · rw [ok.hK]; exact rd_B c2 q
            · refine mono_tT (rd_BT c2 q) fun kb H1 z => ?_
              cases kb with
              | true => exact z
              | false => exact z
          | Or =>
            obtain rfl : b = false := by cases b <;> first | rfl | cases hb
            refine ⟨PE.of (pe_orT k1 k3) fun σ H Q q => ?_, PW.of (pw_or k2 k4) fun σ H Q q => ?_⟩
            · rw [ok.hK]
              refine mono_tI _ _ _ _ (fun v H1 z => ?_) (rd_B c2 q)
              obtain ⟨kb, z1, z2⟩ := z
              refine ⟨kb, z1, ?_⟩
              cases kb with
              | true => exact z2
              | false => exact z2
            · refine mono_tT (rd_BT c2 q) fun kb H1 z => ?_
              cases kb with
              | true => exact z
              | false => exact z
  · intro exs g g' h
    cases es with
    | cons e2 es => cases exs <;> simp only [chkIfs] at h <;> cases h
    | nil =>
      cases exs with
      | nil => simp only [chkIfs] at h; cases h
      | cons ex exs =>
        cases exs with
        | cons ex2 exs => simp only [chkIfs] at h; cases h
        | nil =>
          have h : ((chkE I N io sc e ex g).bind fun (_, g1) => some g1) = some g' := h
          obtain ⟨⟨l1, g1⟩, h1, h⟩ := bind_some h
          cases h
          exact PTs.of (pts_one (i1 ok hsc h1).2) fun σ H Q q => rd_if q
  · intro ex g g' h
    have hle := (les_all I N io (.cons e es)).1 h
    cases es with
    | cons e2 es =>
      obtain ⟨_, _, _, _, _, _, hh, _⟩ := (first _ _ _ h).head
      cases hh
    | nil =>
      by_cases hv : notVar e = true
      · have e1 : chkOps I N io sc (.cons e .nil) [ex] g = if noStar ex then (chkE I N io sc e ex g).bind fun (_, g1) => some g1 else none := by
          cases e <;> first | (simp [notVar] at hv; done) | rfl
        rw [e1] at h
        split at h
        · obtain ⟨⟨l1, g1⟩, h1, h⟩ := bind_some h
          cases h
          exact PT.of (i1 ok hsc h1).2 fun σ H Q q => rd_to hv q
        · cases h
      · cases e <;> first | (simp [notVar] at hv; done) | skip
        rename_i i
        simp only [chkOps] at h
        split at h
        · split at h
          · rename_i x pos hs
            obtain ⟨hp, hl2⟩ := slot_of ok hsc (pos := pos) hs
            exact PT.of (pt_truth hp (plain_test rfl)) fun σ H Q q => rd_toV ok.hK hle q
          · cases h
        · cases h
end
end Fh
end
section
set_option maxRecDepth 100000
set_option maxHeartbeats 2000000
/-! Calls of the text's defs. -/
namespace Fh
open PySem PySem.Spec PyProof.Rows L2

def MonoA (t : TA) : Prop := ∀ σ H (Q Q' : List V → Hp → Prop), (∀ v H', Q v H' → Q' v H') → t σ H Q → t σ H Q'
section
variable {I : Info} {T : Tb} {G : Nat → R D} {c : Callee} {k : Nat} {N : List Str} {io : Bool} {X : Cx} {sc : Scope} {Wx : WX} {g g' g1 : Lv} {ex : Expr} {e : E} {es : Es} {W : Addr → Prop} {ia : Option Addr} {F H : Hp} {σ : L2.St} {Q : VK} {l : Nat} {ρ : DEnv} {fps : Nat → List Addr} {exs : List Expr} {f : Nat} {fd : FD}

/-! ### the syntax of a call -/
theorem callArgs_of (h : callArgs I sc f ex = some (fd, exs)) : ∃ x p args kws pos, ex = .Call (.Name x p) args kws pos ∧ I.fn f = some (x, fd) ∧ glB sc x = true ∧ (kws.all fun k => k.arg.isSome) = true ∧
    kws.filterMap (·.arg) ∈ I.kw f ∧ exs.length = fd.np ∧ exs = args ++ kws.map (·.value) := by
  unfold callArgs at h
  split at h
  · rename_i x p args kws pos
    split at h
    · rename_i y fd' hf
      split at h
      · rename_i hc
        cases h
        simp only [Bool.and_eq_true, decide_eq_true_eq] at hc
        obtain ⟨⟨⟨⟨rfl, h2⟩, h3⟩, h4⟩, h6⟩ := hc
        exact ⟨x, p, args, kws, pos, rfl, hf, h2, h3, h4, h6, rfl⟩
      · cases h
    · cases h
  · cases h
theorem kw_all {kws : List Keyword} {pos : Pos} (h : (kws.all fun k => k.arg.isSome) = true) : (backToKw pos (keywordEach kws X.env)).all (·.1.isSome) = true := by
  induction kws with
  | nil => rfl
  | cons a r ih =>
    obtain ⟨nm, v, p⟩ := a
    simp only [List.all_cons, Bool.and_eq_true] at h
    show (nm.isSome && (backToKw pos (keywordEach r X.env)).all (·.1.isSome)) = true
    rw [ih h.2, h.1]; rfl
theorem kw_names {kws : List Keyword} {pos : Pos} : (backToKw pos (keywordEach kws X.env)).filterMap (·.1) = kws.filterMap (·.arg) := by
  induction kws with
  | nil => rfl
  | cons a r ih =>
    obtain ⟨nm, v, p⟩ := a
    cases nm with
    | none => exact ih
    | some n => exact congrArg (n :: ·) ih
theorem kw_none {kws : List Keyword} {pos : Pos} (h : (kws.all fun k => k.arg.isSome) = true) : (backToKw pos (keywordEach kws X.env)).any (·.1.isNone) = false := by
  induction kws with
  | nil => rfl
  | cons a r ih =>
    obtain ⟨nm, v, p⟩ := a
    simp only [List.all_cons, Bool.and_eq_true] at h
    show (nm.isNone || (backToKw pos (keywordEach r X.env)).any (·.1.isNone)) = false
    rw [ih h.2]
    cases nm with
    | none => cases h.1
    | some n => rfl
theorem monoA_tOps : MonoA (tOps T G c io Wx es g g') := fun σ H Q Q' m ⟨W, ia, F, ρ, fps, hi, r, q⟩ => by
  refine ⟨W, ia, F, ρ, fps, hi, r, ?_⟩
  unfold OPost at q ⊢
  split at q
  · exact fun v F' H' fps' fp a1 a2 a3 a4 => m _ _ (q v F' H' fps' fp a1 a2 a3 a4)
  · exact q
  · exact q
theorem POps.kw : ∀ {kws : List Keyword} {es : Es} {g g' : Lv}, POps T G c io Wx X es (kws.map (·.value)) g g' → PK X kws (tOps T G c io Wx es g g')
  | [], es, g, g', h => by
    cases h
    exact ⟨fun pos pins s σ H Q I q => pk_nil.run pos pins s σ H Q I (ops_nil q)⟩
  | ⟨nm, v, p⟩ :: kws, es, g, g', h => by
    cases es with
    | nil => cases h
    | cons e es =>
      obtain ⟨ta, g1, g2, h1, m1, n1, h2, q1⟩ := h.head
      exact ⟨fun pos pins s σ H Q I q => (pk_cons h1 (POps.kw h2)).run pos pins s σ H Q I (q1 σ H Q q)⟩
theorem POps.mix {kws : List Keyword} : ∀ {args : List Expr} {es : Es} {g g' : Lv}, POps T G c io Wx X es (args ++ kws.map (·.value)) g g' →
    ∃ t1 t2, PA X args t1 ∧ PK X kws t2 ∧ MonoA t1 ∧ MonoA t2 ∧ (∀ e ∈ args, noStar e = true) ∧ ∀ σ H Q, tOps T G c io Wx es g g' σ H Q → t1 σ H fun vs H1 => vs.length = args.length ∧ t2 σ H1 fun zs H2 => Q (vs ++ zs) H2
  | [], es, g, g', h => ⟨_, _, pa_nil, POps.kw h, fun σ H Q Q' m q => m _ _ q, monoA_tOps, fun e m => by simp at m, fun σ H Q q => ⟨rfl, q⟩⟩
  | a :: args, es, g, g', h => by
    cases es with
    | nil => cases h
    | cons e es =>
      obtain ⟨ta, g1, g2, h1, m1, n1, h2, q1⟩ := POps.head (exs := args ++ kws.map (·.value)) h
      obtain ⟨t1, t2, k1, k2, k3, k6, k4, k5⟩ := POps.mix h2
      refine ⟨_, _, pa_cons h1 k1 (star_of n1), k2, fun σ H Q Q' m q => m1 σ H _ _ (fun v H' z => k3 σ H' _ _ (fun _ _ => m _ _) z) q, k6, fun e m => ?_, fun σ H Q q => ?_⟩
      · rcases List.mem_cons.mp m with rfl | m
        · exact n1
        · exact k4 e m
      · exact m1 σ H _ _ (fun v H' z => k3 σ H' _ _ (fun vs H1 z => ⟨by simp [z.1], z.2⟩) (k5 σ H' _ z)) (q1 σ H Q q)
theorem POps.len (h : POps T G c io Wx X es exs g g') : es.len = exs.length := by
  induction h with
  | nil => rfl
  | var _ _ _ _ _ ih => simp [Es.len, ih]
  | tmp _ _ _ _ ih => simp [Es.len, ih]
theorem Opr.len {vs : List V} {ds : List D} {fp : List Addr} (o : Opr T F H σ ρ es vs ds fp) : vs.length = es.len := by
  induction o with
  | nil => rfl
  | var _ _ _ ih => simp [Es.len, ih]
  | tmp _ _ _ _ ih => simp [Es.len, ih]

theorem kw_len {kws : List Keyword} (h : (kws.all fun k => k.arg.isSome) = true) : (kws.filterMap (·.arg)).length = kws.length := by
  induction kws with
  | nil => rfl
  | cons a r ih =>
    obtain ⟨nm, v, p⟩ := a
    simp only [List.all_cons, Bool.and_eq_true] at h
    cases nm with
    | none => cases h.1
    | some n => exact congrArg (· + 1) (ih h.2)
/-- a call by its arguments' readings -/
theorem pe_callG (ok : Ok I T G c k N Wx X) (hsc : X.env.scope = sc) {x : Str} {p pos : Pos} {args : List Expr} {kws : List Keyword} {t1 t2 : TA} (hf : I.fn f = some (x, fd)) (hx : glB sc x = true) (hall : (kws.all fun k => k.arg.isSome) = true)
    (hkw : kws.filterMap (·.arg) ∈ I.kw f) (h0 : args ≠ []) (ha : PA X args t1) (hk : PK X kws t2) (hst : ∀ e ∈ args, noStar e = true) :
    PE X (.Call (.Name x p) args kws pos) (fun σ H Q => t1 σ H fun vs H1 => t2 σ H1 fun zs H2 => zs.length = kws.length ∧ spF T fd (c f) (vs ++ zs) H2 Q fun cc d H' => Wx cc d σ H') := by
  obtain ⟨a, fdt, ps, e1, e2, e3, e4, e5, e6⟩ := ok.fn _ _ _ hf
  obtain ⟨h3, h4, h5⟩ := gl_of hsc hx
  cases args with
  | nil => exact absurd rfl h0
  | cons z zs =>
    refine ⟨fun pins s σ H Q I h => ?_⟩
    refine wpAny_Call_Name_kw (ld_glob I h3 e2 ?_ h4)
    have hs1 := star_of (X := X) (exs := zs) (hst z List.mem_cons_self)
    have hpl : ((backTo pos (starEach (z :: zs) X.env)).any (·.1) || (backToKw pos (keywordEach kws X.env)).any (·.1.isNone)) = false := by
      rw [kw_none hall, plain_stars hst]; rfl
    refine PySem.W.callWith_KW (h₀ := X.base) I.ok.mod.kin e3 (kw_all hall) (thn (ha.run pos pins s σ H _ I h) fun us s1 ⟨vs, H1, I1, r, q⟩ => ?_) hpl hs1
    refine thn (hk.run pos pins s1 σ H1 _ I1 q) fun ws s2 ⟨ys, H2, I2, rz, q2⟩ => ⟨I2.kIn, ?_⟩
    rw [kw_names]
    exact runG e4 ok.gd ok.rm (fun s us ws hl hw => e6 _ hkw s us ws hl hw) ok.tk I2 r rz (by rw [kw_len hall, ← rz.length]; exact q2.1) q2.2
theorem pe_callG0 (ok : Ok I T G c k N Wx X) (hsc : X.env.scope = sc) {x : Str} {p pos : Pos} (hf : I.fn f = some (x, fd)) (hx : glB sc x = true) (hkw : [] ∈ I.kw f) :
    PE X (.Call (.Name x p) [] [] pos) (fun σ H Q => spF T fd (c f) [] H Q fun cc d H' => Wx cc d σ H') := by
  obtain ⟨a, fdt, ps, e1, e2, e3, e4, e5, e6⟩ := ok.fn _ _ _ hf
  obtain ⟨h3, h4, h5⟩ := gl_of hsc hx
  refine ⟨fun pins s σ H Q I h => ?_⟩
  refine wpAny_Call_Name_kw (ld_glob I h3 e2 ?_ h4)
  refine PySem.W.callWith_K0 I.kIn e3 ?_
  exact runG (ks := []) (us := []) (ws := []) (vs := []) (zs := []) e4 ok.gd ok.rm (fun s us ws hl hw => e6 [] hkw s us ws hl hw) ok.tk I .nil .nil rfl h

theorem pe_callGK (ok : Ok I T G c k N Wx X) (hsc : X.env.scope = sc) {x : Str} {p pos : Pos} {kws : List Keyword} {t2 : TA} (hf : I.fn f = some (x, fd)) (hx : glB sc x = true) (hall : (kws.all fun k => k.arg.isSome) = true)
    (hkw : kws.filterMap (·.arg) ∈ I.kw f) (hk : PK X kws t2) :
    PE X (.Call (.Name x p) [] kws pos) (fun σ H Q => t2 σ H fun zs H2 => zs.length = kws.length ∧ spF T fd (c f) zs H2 Q fun cc d H' => Wx cc d σ H') := by
  obtain ⟨a, fdt, ps, e1, e2, e3, e4, e5, e6⟩ := ok.fn _ _ _ hf
  obtain ⟨h3, h4, h5⟩ := gl_of hsc hx
  refine ⟨fun pins s σ H Q I h => ?_⟩
  refine wpAny_Call_Name_kw (ld_glob I h3 e2 ?_ h4)
  refine PySem.W.callWith_KW0 (h₀ := X.base) I.ok.mod.kin e3 (kw_all hall) (thn (hk.run pos pins s σ H _ I h) fun ws s2 ⟨ys, H2, I2, rz, q2⟩ => ⟨I2.kIn, ?_⟩) (by rw [kw_none hall]; rfl)
  rw [kw_names]
  exact runG (us := []) (vs := []) e4 ok.gd ok.rm (fun s us ws hl hw => e6 _ hkw s us ws hl hw) ok.tk I2 .nil rz (by rw [kw_len hall, ← rz.length]; exact q2.1) q2.2

/-! ### the arguments frozen -/
theorem Opr.rds {vs : List V} {ds : List D} {fp : List Addr} (r : Rel T W ia F H σ ρ g fps) (o : Opr T F H σ ρ es vs ds fp) {F2 : Hp} (hF : Le F F2) (h1 : ∀ i ∈ varsOf es, ∀ a ∈ fps i, F2 a = H a) (h2 : ∀ a ∈ fp, F2 a = H a) : RDs T F2 vs ds := by
  induction o with
  | nil => exact .nil
  | @var i v d es vs ds fp e1 e2 _ ih =>
    obtain ⟨v', e3, ro⟩ := r.slot i d e2
    rw [e1] at e3; cases e3
    exact .cons (ro.toRD hF (h1 i List.mem_cons_self)) (ih (fun j m => h1 j (List.mem_cons_of_mem _ m)) h2)
  | tmp n k ro _ ih =>
    exact .cons (ro.toRD hF fun a m => h2 a (List.mem_append_left _ m)) (ih (fun j m => h1 j (by rw [varsOf_tmp n]; exact m)) fun a m => h2 a (List.mem_append_right _ m))
theorem frz_get : ∀ {es : Es} {g : Lv} {i : Nat}, i ∈ varsOf es → (frzOps es g).getD i 0 = 0
  | .nil, g, i, h => by simp [varsOf] at h
  | .cons e es, g, i, h => by
    by_cases hv : notVar e = true
    · rw [varsOf_tmp hv] at h
      have : frzOps (.cons e es) g = frzOps es g := by cases e <;> first | (simp [notVar] at hv; done) | simp only [frzOps]
      rw [this]; exact frz_get h
    · cases e <;> first | (simp [notVar] at hv; done) | skip
      rename_i j
      simp only [frzOps]
      rw [getD_set']
      split
      · rfl
      · rename_i q
        rcases List.mem_cons.mp h with z | z
        · subst z
          have : ¬ i < (frzOps es g).length := fun z => q ⟨rfl, z⟩
          exact getD_big (by omega)
        · exact frz_get z
theorem frz_out : ∀ {es : Es} {g : Lv} {i : Nat}, notIn i es = true → (frzOps es g).getD i 0 = g.getD i 0
  | .nil, g, i, h => rfl
  | .cons e es, g, i, h => by
    cases e with
    | var j =>
      simp only [notIn, Bool.and_eq_true, decide_eq_true_eq] at h
      simp only [frzOps]
      rw [getD_set', if_neg fun z => h.1 z.1.symm]
      exact frz_out h.2
    | _ => simp only [notIn] at h; simp only [frzOps]; exact frz_out h
theorem RO.nil0 {v : V} {d : D} {fp : List Addr} (r : RO T F H 0 v d fp) : fp = [] := by
  cases r <;> rfl
theorem ROs.nil0 : ∀ {vs : List V} {ds : List D} {fp : List Addr}, ROs T F H 0 vs ds fp → fp = []
  | _, _, _, .nil => rfl
  | _, _, _, .cons r s => by rw [r.nil0, s.nil0]; rfl
/-- .. and the slots of their names with them -/
theorem frz_args {vs : List V} {ds : List D} {fp : List Addr} (hi : ia.isSome = io) (r : Rel T W ia F H σ ρ g fps) (o : Opr T F H σ ρ es vs ds fp) (n : New W F H fps fp) (hio : io = true → notIn 0 es = true) :
    ∃ F2 fps2, Rel T W ia F2 H σ ρ (frzOps es g) fps2 ∧ Pres W F H F2 H ∧ RDs T F2 vs ds ∧ ∀ i a, a ∈ fps2 i → a ∈ fps i := by
  obtain ⟨F1, fps1, r1, p1, s1⟩ := (r.hold n).weakAll (frz_le io es g hio) hi
  have o1 : Opr T F1 H σ ρ es vs ds fp := o.stab p1.f (n.here p1)
  have hX : ∀ a ∈ fp, ∀ i, a ∉ fps1 i := fun a m i z => (r1.own i a z).2.2 (.inr m)
  refine ⟨addF F1 H fp, fps1, (r1.frz hX).monoW fun _ => addW_l, (p1.mono fun _ => addW_l).trans (Pres.frz r1.sub fun a m => (n.ok a m).1), ?_, s1⟩
  refine o1.rds r1 (addF_le r1.sub) (fun i m a ha => ?_) fun a m => addF_in m
  exfalso
  have hρ : ∃ d, ρ[i]? = some (some d) := by
    clear r1 p1 hX n o hio s1
    induction o1 with
    | nil => simp [varsOf] at m
    | @var j v d es vs ds fp e1 e2 _ ih =>
      rcases List.mem_cons.mp m with z | z
      · subst z; exact ⟨_, e2⟩
      · exact ih z
    | tmp n k ro _ ih => exact ih (by rw [varsOf_tmp n] at m; exact m)
  obtain ⟨d, hd⟩ := hρ
  obtain ⟨v, _, ro⟩ := r1.slot i d hd
  rw [frz_get m] at ro
  rw [ro.nil0] at ha
  simp at ha
/-- another def ran: what stood stands -/
theorem Rel.ran {F2 H2 : Hp} (r : Rel T W ia F H σ ρ g fps) (p : Pres (Rest H none) F H F2 H2) (h : Le F2 H2) : Rel T W ia F2 H2 σ ρ g fps := by
  have rest : ∀ a, H a ≠ none → Rest H none a := fun a n => ⟨n, by simp⟩
  refine ⟨r.len, h, fun i d e => ?_, fun i a m => ?_, r.nd, r.dj, fun a w => ?_, r.iok⟩
  · obtain ⟨v, e1, ro⟩ := r.slot i d e
    exact ⟨v, e1, ro.stab p.f fun a m => ⟨p.h a (rest a (r.own i a m).1), p.n a (rest a (r.own i a m).1) (r.own i a m).2.1⟩⟩
  · obtain ⟨h1, h2, h3⟩ := r.own i a m
    exact ⟨by rw [p.h a (rest a h1)]; exact h1, p.n a (rest a h1) h2, h3⟩
  · rw [p.h a (rest a (r.held a w))]; exact r.held a w
theorem Rel.pres {F2 H2 : Hp} (r : Rel T W ia F H σ ρ g fps) (p : Pres (Rest H none) F H F2 H2) : Pres W F H F2 H2 := p.mono fun a w => ⟨r.held a w, by simp⟩
theorem ran_le {F F2 H H2 : Hp} (p : Pres (Rest H none) F H F2 H2) : Le H H2 := fun a o e => by
  rw [p.h a ⟨by rw [e]; simp, by simp⟩]; exact e
theorem rd_call {g1 : Lv} (hl : es.len = fd.np) (hio : fd.io = false) (hsc : fd.scal = false) (hni : io = true → notIn 0 es = true) (h : tI T G c io Wx (.call f es) g (frzOps es g1) fd.lv σ H Q) :
    tOps T G c io Wx es g g1 σ H fun vs H1 => spF T fd (c f) vs H1 Q fun cc d H' => Wx cc d σ H' := by
  obtain ⟨W, ia, F, ρ, fps, hi, r, q⟩ := h
  have e1 : ev G c (.call f es) ρ = (evOps G c es ρ).bind fun (ds, ρ1) => (c f ds).bind fun r => match r with
    | (d, none) => .ok (d, ρ1)
    | _ => .bad := by simp only [ev] <;> rfl
  rw [e1] at q
  refine ⟨W, ia, F, ρ, fps, hi, r, ?_⟩
  cases hs : evOps G c es ρ with
  | bad => rw [hs] at q; exact q
  | ex k v => rw [hs] at q; exact q
  | ok z =>
    obtain ⟨ds, ρ1⟩ := z
    rw [hs] at q
    intro vs F1 H1 fps1 fp r1 p1 o1 n1
    obtain ⟨F2, fps2, r2, p2, rds, s2⟩ := frz_args hi r1 o1 n1 hni
    have p12 := p1.trans p2
    refine ⟨by rw [o1.len, hl], F2, none, ds, r2.sub, by rw [hio]; rfl, rds, ?_⟩
    simp only [R.bind_ok] at q
    cases hc : c f ds with
    | bad => rw [hc] at q; exact False.elim q
    | ex k v =>
      rw [hc] at q
      refine ⟨rfl, fun C dx w F3 H3 a1 a2 a3 a4 a5 a6 => ?_⟩
      refine (show XPost T W F H Wx σ k v from q) C dx w F3 H3 a1 a2 (p12.trans (r2.pres a3)) ?_ a5 a6
      cases e : H dx with
      | none => rfl
      | some o => exact absurd a4 (p12.dom dx (by rw [e]; simp))
    | ok z =>
      obtain ⟨d, gg⟩ := z
      rw [hc] at q
      cases gg with
      | some gg => exact False.elim q
      | none =>
        refine fun v F3 H3 fp3 _ a1 a2 a3 a4 a5 _ => ?_
        refine (show EPost T W ia (frzOps es g1) fd.lv F H Wx σ Q (.ok (d, ρ1)) from q) v F3 H3 fps2 fp3 (r2.ran a2 a1) (p12.trans (r2.pres a2)) a3 ⟨a4, fun a m => ?_⟩
        obtain ⟨b1, b2, b3⟩ := a5 a m
        exact ⟨fun w => r2.held a w b1, fun i z => (r2.own i a z).1 b1, b2, b3⟩
/-- .. of a def that makes no object -/
theorem rd_callS {g1 : Lv} (hl : es.len = fd.np) (hio : fd.io = false) (hsc : fd.scal = true) (h : tI T G c io Wx (.call f es) g g1 9 σ H Q) :
    tOps T G c io Wx es g g1 σ H fun vs H1 => spF T fd (c f) vs H1 Q fun cc d H' => Wx cc d σ H' := by
  obtain ⟨W, ia, F, ρ, fps, hi, r, q⟩ := h
  have e1 : ev G c (.call f es) ρ = (evOps G c es ρ).bind fun (ds, ρ1) => (c f ds).bind fun r => match r with
    | (d, none) => .ok (d, ρ1)
    | _ => .bad := by simp only [ev] <;> rfl
  rw [e1] at q
  refine ⟨W, ia, F, ρ, fps, hi, r, ?_⟩
  cases hs : evOps G c es ρ with
  | bad => rw [hs] at q; exact q
  | ex k v => rw [hs] at q; exact q
  | ok z =>
    obtain ⟨ds, ρ1⟩ := z
    rw [hs] at q
    intro vs F1 H1 fps1 fp r1 p1 o1 n1
    have hnw : ∀ a, ((∃ i ∈ varsOf es, a ∈ fps1 i) ∨ a ∈ fp) → ¬ W a := fun a z => by
      rcases z with ⟨i, _, z⟩ | z
      · exact (r1.own i a z).2.2
      · exact (n1.ok a z).1
    have p2 : Pres W F1 H1 (addP F1 H1 fun a => (∃ i ∈ varsOf es, a ∈ fps1 i) ∨ a ∈ fp) H1 := ⟨addP_le r1.sub, fun _ _ => rfl, fun a w n => by rw [addP_out fun z => hnw a z w]; exact n, fun _ z => z⟩
    have rds : RDs T (addP F1 H1 fun a => (∃ i ∈ varsOf es, a ∈ fps1 i) ∨ a ∈ fp) vs ds := o1.rds r1 (addP_le r1.sub) (fun i m a ha => addP_in (.inl ⟨i, m, ha⟩)) fun a m => addP_in (.inr m)
    have p12 := p1.trans p2
    have prs : ∀ {F3 H3 : Hp}, Pres (Rest H1 none) (addP F1 H1 fun a => (∃ i ∈ varsOf es, a ∈ fps1 i) ∨ a ∈ fp) H1 F3 H3 → Pres W (addP F1 H1 fun a => (∃ i ∈ varsOf es, a ∈ fps1 i) ∨ a ∈ fp) H1 F3 H3 := fun p => p.mono fun a w => ⟨r1.held a w, by simp⟩
    refine ⟨by rw [o1.len, hl], _, none, ds, addP_sub r1.sub, by rw [hio]; rfl, rds, ?_⟩
    simp only [R.bind_ok] at q
    cases hc : c f ds with
    | bad => rw [hc] at q; exact False.elim q
    | ex k v =>
      rw [hc] at q
      refine ⟨rfl, fun C dx w F3 H3 a1 a2 a3 a4 a5 a6 => ?_⟩
      refine (show XPost T W F H Wx σ k v from q) C dx w F3 H3 a1 a2 (p12.trans (prs a3)) ?_ a5 a6
      cases e : H dx with
      | none => rfl
      | some o => exact absurd a4 (p12.dom dx (by rw [e]; simp))
    | ok z =>
      obtain ⟨d, gg⟩ := z
      rw [hc] at q
      cases gg with
      | some gg => exact False.elim q
      | none =>
        refine fun v F3 H3 fp3 hd a1 a2 a3 a4 a5 _ => ?_
        have hle := ran_le a2
        have hd : scalar d = true := hd.elim id fun z => by rw [hsc] at z; cases z
        exact (show EPost T W ia g1 9 F H Wx σ Q (.ok (d, ρ1)) from q) v F1 H3 fps1 [] (r1.ext hle) (p1.ext hle r.held) (.sc hd (RD.scl hd (a3.scl hd))) New.nil

theorem m_call {f : Nat} (ih : MEs I T G c k N io es) : ME I T G c k N io (.call f es) := by
  intro X sc Wx ex g g' l ok hsc h
  simp only [chkE] at h
  split at h
  · rename_i fd exs hca
    obtain ⟨x, p, args, kws, pos, rfl, hf, hx, hall, hkw, hlen, rfl⟩ := callArgs_of hca
    split at h
    · cases h
    · rename_i hio
      have hio : fd.io = false := by cases e : fd.io <;> simp_all
      have pe : PE X (.Call (.Name x p) args kws pos) (tI T G c io Wx (.call f es) g g' l) := by
        have both : ∀ g1, chkOps I N io sc es (args ++ kws.map (·.value)) g = some g1 → (∀ σ H Q, tI T G c io Wx (.call f es) g g' l σ H Q → tOps T G c io Wx es g g1 σ H fun vs H1 => spF T fd (c f) vs H1 Q fun cc d H' => Wx cc d σ H') →
            PE X (.Call (.Name x p) args kws pos) (tI T G c io Wx (.call f es) g g' l) := by
          intro g1 h1 rd
          have hp := (ih ok hsc).1 _ _ _ h1
          by_cases ha : args = []
          · subst ha
            cases kws with
            | nil =>
              have hp' : POps T G c io Wx X es [] g g1 := hp
              cases es with
              | cons e es => cases hp'
              | nil => exact PE.of (pe_callG0 ok hsc hf hx (by simpa using hkw)) fun σ H Q q => hp'.last σ H _ (rd σ H Q q)
            | cons k0 kws =>
              refine PE.of (pe_callGK ok hsc hf hx hall hkw (POps.kw hp)) fun σ H Q q => ?_
              refine monoA_tOps _ _ _ _ (fun vs H1 z => ⟨?_, z⟩) (rd σ H Q q)
              have e1 := z.1
              simp only [List.nil_append, List.length_map] at hlen
              omega
          · obtain ⟨t1, t2, k1, k2, k3, k6, k4, k5⟩ := hp.mix
            refine PE.of (pe_callG ok hsc hf hx hall hkw ha k1 k2 k4) fun σ H Q q => ?_
            refine k3 σ H _ _ (fun vs H1 z => k6 σ H1 _ _ (fun zs H2 z2 => ⟨?_, z2⟩) z.2) (k5 σ H _ (rd σ H Q q))
            have e1 := z2.1
            have e2 := z.1
            simp only [List.length_append, List.length_map] at e1 hlen
            omega
        split at h
        · rename_i hs
          obtain ⟨g1, h1, h⟩ := bind_some h
          cases h
          exact both _ h1 fun σ H Q q => rd_callS (by rw [((ih ok hsc).1 _ _ _ h1).len, hlen]) hio hs q
        · rename_i hs
          split at h
          · cases h
          · rename_i hn
            obtain ⟨g1, h1, h⟩ := bind_some h
            cases h
            exact both _ h1 fun σ H Q q => rd_call (by rw [((ih ok hsc).1 _ _ _ h1).len, hlen]) hio (by simpa using hs) (not_notIn io hn) q
      exact ⟨pe, tT_of ok.hK pe rfl⟩
  · cases h

/-! ### a def that turns its first argument in place -/
theorem RO.one {v : V} {ds : List D} {fp : List Addr} (r : RO T F H 1 v (.list ds) fp) : ∃ a vs, v = .ref a ∧ fp = [a] ∧ H a = some (.lst vs) ∧ F a = none := by
  cases r with
  | sc h _ => cases h
  | list h1 h2 h3 => exact ⟨_, _, rfl, by rw [h3.nil0], h1, h2⟩
theorem isList {d : D} (h : isTy .list d = true) : ∃ xs, d = .list xs := by
  cases d <;> first | (cases h; done) | exact ⟨_, rfl⟩
theorem RO.at {a : Addr} {d : D} {fp : List Addr} (r : RO T F H 1 (.ref a) d [a]) : H a ≠ none ∧ F a = none := by
  cases r with
  | list h1 h2 h3 => exact ⟨by rw [h1]; simp, h2⟩
  | tup h1 h2 h3 => exact ⟨by rw [h1]; simp, h2⟩
  | dict h1 h2 h3 => exact ⟨by rw [h1]; simp, h2⟩
theorem Rel.ranIo {F2 H2 : Hp} {i : Nat} {a : Addr} {d : D} (r : Rel T W ia F H σ ρ g fps) (p : Pres (Rest H (some a)) F H F2 H2) (h : Le F2 H2) (hi : fps i = [a]) (hg : g.getD i 0 = 1) (hσ : σ[i]? = some (some (.ref a))) (ro : RO T F2 H2 1 (.ref a) d [a]) :
    Rel T W ia F2 H2 σ (ρ.set i (some d)) g fps := by
  have rest : ∀ b, b ≠ a → H b ≠ none → Rest H (some a) b := fun b hb n => ⟨n, fun z => hb (Option.some.inj z).symm⟩
  have hat := RO.at (fp := []) ro
  have na : ¬ W a := (r.own i a (by rw [hi]; exact List.mem_cons_self)).2.2
  have ne : ∀ j b, j ≠ i → b ∈ fps j → b ≠ a := fun j b hj m z => hj (r.dj j i b m (by rw [hi, z]; exact List.mem_cons_self))
  refine ⟨by rw [List.length_set]; exact r.len, h, fun j d' e => ?_, fun j b m => ?_, r.nd, r.dj, fun b w => ?_, fun b e => ?_⟩
  · by_cases hj : j = i
    · subst hj
      rw [List.getElem?_set_self'] at e
      cases hρ : ρ[j]? with
      | none => rw [hρ] at e; cases e
      | some o =>
        rw [hρ] at e
        cases e
        exact ⟨_, hσ, by rw [hg, hi]; exact ro⟩
    · rw [List.getElem?_set_ne (Ne.symm hj)] at e
      obtain ⟨v, e1, ro'⟩ := r.slot j d' e
      exact ⟨v, e1, ro'.stab p.f fun b m => ⟨p.h b (rest b (ne j b hj m) (r.own j b m).1), p.n b (rest b (ne j b hj m) (r.own j b m).1) (r.own j b m).2.1⟩⟩
  · obtain ⟨h1, h2, h3⟩ := r.own j b m
    by_cases hb : b = a
    · subst hb; exact ⟨hat.1, hat.2, h3⟩
    · exact ⟨by rw [p.h b (rest b hb h1)]; exact h1, p.n b (rest b hb h1) h2, h3⟩
  · rw [p.h b (rest b (fun z => na (z ▸ w)) (r.held b w))]; exact r.held b w
  · obtain ⟨h1, h2, h3, d0, h4⟩ := r.iok b e
    refine ⟨h1, h2, h3, ?_⟩
    by_cases hj : 0 = i
    · subst hj; exact ⟨d, by rw [List.getElem?_set_self', h4]; rfl⟩
    · exact ⟨d0, by rw [List.getElem?_set_ne (Ne.symm hj)]; exact h4⟩
theorem rd_callio {i : Nat} {g1 : Lv} (hl : es.len + 1 = fd.np) (hio : fd.io = true) (h1 : 1 ≤ g.getD i 0) (hi1 : i < g.length) (hni : notIn i es = true) (hn0 : io = true → notIn 0 es = true) (hle : LeC io g1 (g.set i 1)) (h2 : 1 ≤ g1.getD i 0)
    (h : tI T G c io Wx (.callio f i es) g (frzOps es g1) (if fd.scal then 9 else fd.lv) σ H Q) :
    tVar i σ H fun x H0 => tOps T G c io Wx es (g.set i 1) g1 σ H0 fun vs H1 => spF T fd (c f) (x :: vs) H1 Q fun cc d H' => Wx cc d σ H' := by
  obtain ⟨W, ia, F, ρ, fps, hi, r, q⟩ := h
  have e1 : ev G c (.callio f i es) ρ = (getV ρ i).bind fun _ => (evOps G c es ρ).bind fun (ds, ρ1) => (getV ρ1 i).bind fun g => if isTy .list g then (noex (c f (g :: ds))).bind fun r => (match r with
    | (d, some g') => .ok (d, ρ1.set i (some g'))
    | _ => .bad) else .bad := by simp only [ev] <;> rfl
  rw [e1] at q
  cases hg0 : getV ρ i with
  | bad => rw [hg0] at q; exact False.elim q
  | ex k v => exact absurd hg0 getV_ex
  | ok d0 =>
    rw [hg0] at q
    simp only [R.bind_ok] at q
    obtain ⟨v, hσ, ro⟩ := r.slot i d0 (getV_ok hg0)
    have hin : ia = none ∨ i ≠ 0 ∨ 1 = g.getD i 0 := by
      cases hia : ia with
      | none => exact .inl rfl
      | some a =>
        by_cases z : i = 0
        · subst z; exact .inr (.inr (r.iok a hia).2.2.1.symm)
        · exact .inr (.inl z)
    obtain ⟨F0, fp0, r0, p0, s0⟩ := r.weakSlot (j := 1) hi1 h1 hin
    refine ⟨v, hσ, W, ia, F0, ρ, setF fps i fp0, hi, r0, ?_⟩
    cases hs : evOps G c es ρ with
    | bad => rw [hs] at q; exact q
    | ex k v => rw [hs] at q; exact XPost.step (show XPost T W F H Wx σ k v from q) p0 fun _ z => z
    | ok z =>
      obtain ⟨ds, ρ1⟩ := z
      rw [hs] at q
      simp only [R.bind_ok] at q
      intro vs F1 H1 fps1 fp r1 p1 o1 n1
      cases hg1 : getV ρ1 i with
      | bad => rw [hg1] at q; exact False.elim q
      | ex k v => exact absurd hg1 getV_ex
      | ok d1 =>
        rw [hg1] at q
        simp only [R.bind_ok] at q
        by_cases hlist : isTy .list d1 = true
        · rw [if_pos hlist] at q
          obtain ⟨xs, rfl⟩ := isList hlist
          obtain ⟨F2, fps2, r2, p2, rds, s2⟩ := frz_args hi r1 o1 n1 hn0
          have p12 := (p0.trans p1).trans p2
          obtain ⟨v', hσ', ro2⟩ := r2.slot i _ (getV_ok hg1)
          rw [hσ] at hσ'; cases hσ'
          have lv1 : (frzOps es g1).getD i 0 = 1 := by
            rw [frz_out hni]
            have := hle.le i
            rw [getD_set g hi1, if_pos rfl] at this
            omega
          rw [lv1] at ro2
          obtain ⟨a, ws, rfl, hfp, hHa, hFa⟩ := ro2.one
          rw [hfp] at ro2
          refine ⟨by rw [List.length_cons, o1.len, hl], F2, some a, .list xs :: ds, r2.sub, by rw [hio]; rfl, ⟨vs, .list xs, ds, rfl, rfl, ro2, rds⟩, ?_⟩
          cases hc : c f (.list xs :: ds) with
          | bad => rw [hc] at q; exact False.elim q
          | ex k v => rw [hc] at q; exact False.elim q
          | ok z =>
            obtain ⟨d, gg⟩ := z
            rw [hc] at q
            cases gg with
            | none => exact False.elim q
            | some gg =>
              refine fun v F3 H3 fp3 hsc a1 a2 a3 a4 a5 a6 => ?_
              have r3 := r2.ranIo a2 a1 hfp lv1 hσ a6
              have na : ¬ W a := (r2.own i a (by rw [hfp]; exact List.mem_cons_self)).2.2
              have p3 : Pres W F H F3 H3 := p12.trans (a2.mono fun b w => ⟨r2.held b w, fun z => na ((Option.some.inj z) ▸ w)⟩)
              have q := (show EPost T W ia (frzOps es g1) (if fd.scal then 9 else fd.lv) F H Wx σ Q (.ok (d, ρ1.set i (some gg))) from q)
              cases hs : fd.scal with
              | true =>
                have hd : scalar d = true := hsc.elim id fun z => by rw [hs] at z; cases z
                exact q v F3 H3 fps2 [] r3 p3 (.sc hd (RD.scl hd (a3.scl hd))) New.nil
              | false =>
                refine q v F3 H3 fps2 fp3 r3 p3 (by rw [hs]; exact a3) ⟨a4, fun b m => ?_⟩
                obtain ⟨b1, b2, b3⟩ := a5 b m
                exact ⟨fun w => r2.held b w b1, fun i z => (r2.own i b z).1 b1, b2, b3⟩
        · rw [if_neg hlist] at q; exact False.elim q
theorem m_callio {f i : Nat} (ih : MEs I T G c k N io es) : ME I T G c k N io (.callio f i es) := by
  intro X sc Wx ex g g' l ok hsc h
  simp only [chkE] at h
  split at h
  · rename_i fd x0 p0 exs hca
    obtain ⟨x, p, args, kws, pos, rfl, hf, hx, hall, hkw, hlen, hargs⟩ := callArgs_of hca
    split at h
    · rename_i hc
      simp only [Bool.and_eq_true, decide_eq_true_eq] at hc
      obtain ⟨⟨⟨⟨⟨hio, hsl⟩, h1⟩, hni⟩, hn0⟩, hpos⟩ := hc
      have hn0 : io = true → notIn 0 es = true := fun z => by simpa [z] using hn0
      obtain ⟨g1, h2, h⟩ := bind_some h
      split at h
      · rename_i h3
        cases h
        cases args with
        | nil => cases hpos
        | cons a args =>
          simp only [List.cons_append, List.cons.injEq] at hargs
          obtain ⟨rfl, rfl⟩ := hargs
          obtain ⟨pv, hl⟩ := slot_of ok hsc (pos := p0) hsl
          have hp := (ih ok hsc).1 _ _ _ h2
          have hle := (les_all I N io es).1 h2
          obtain ⟨t1, t2, k1, k2, k3, k6, k4, k5⟩ := hp.mix
          have el : es.len + 1 = fd.np := by rw [← hlen, hp.len]; rfl
          have pe : PE X (.Call (.Name x p) (.Name x0 p0 :: args) kws pos) (tI T G c io Wx (.callio f i es) g (frzOps es g1) (if fd.scal then 9 else fd.lv)) := by
            refine PE.of (pe_callG ok hsc hf hx hall hkw (by simp) (pa_cons pv k1) k2 ?_) fun σ H Q q => ?_
            · intro e m
              rcases List.mem_cons.mp m with rfl | m
              · rfl
              · exact k4 e m
            · refine mono_var _ _ _ _ (fun v H0 z => ?_) (rd_callio el hio h1 hl hni hn0 hle h3 q)
              refine k3 σ H0 _ _ (fun vs H1 z => k6 σ H1 _ _ (fun zs H2 z2 => ⟨?_, z2⟩) z.2) (k5 σ H0 _ z)
              have e1 := z2.1
              have e2 := z.1
              simp only [List.length_append, List.length_map, List.length_cons] at e1 hlen
              omega
          exact ⟨pe, tT_of ok.hK pe rfl⟩
      · cases h
    · cases h
  · cases h
/-- a call that hands back no object, of an item of a name: nothing is frozen behind it -/
theorem m_callq {f i : Nat} {j : Int} : ME I T G c k N io (.callq f i j) := by
  intro X sc Wx ex g g' l ok hsc h
  simp only [chkE] at h
  split at h
  · rename_i fd y p0 n kk p1 p2 hca
    obtain ⟨x, p, args, kws, pos, rfl, hf, hx, hall, hkw, hlen, hargs⟩ := callArgs_of hca
    split at h
    · rename_i hc
      cases h
      simp only [Bool.and_eq_true, decide_eq_true_eq, Bool.not_eq_true'] at hc
      obtain ⟨⟨⟨⟨hio, hscal⟩, hsl⟩, rfl⟩, hpos⟩ := hc
      cases args with
      | nil => cases hpos
      | cons a args =>
        simp only [List.cons_append, List.cons.injEq] at hargs
        obtain ⟨rfl, hargs⟩ := hargs
        obtain ⟨ha0, hk0⟩ := List.append_eq_nil_iff.mp hargs.symm
        subst ha0
        obtain rfl := List.map_eq_nil_iff.mp hk0
        obtain ⟨pv, hl⟩ := slot_of ok hsc (pos := p0) hsl
        have pe : PE X (.Call (.Name x p) [.Subscript (.Name y p0) (.Constant (.int n) kk p1) p2] [] pos) (tI T G c io Wx (.callq f i n) g g 9) := by
          refine PE.of (pe_callG ok hsc hf hx hall hkw (by simp) (pa_cons (pe_ix (ir_idx (T := T) ok.hK) pv pe_int (fun _ _ => rfl)) pa_nil (star_of rfl)) pk_nil (fun e m => by
            rcases List.mem_cons.mp m with rfl | m
            · rfl
            · cases m)) fun σ H Q ⟨W, ia, F, ρ, fps, hi, r, q⟩ => ?_
          have e1 : ev G c (.callq f i n) ρ = (getV ρ i).bind fun l => (prim .idx [l, .int n]).bind fun d => (noex (c f [d])).bind fun r => match r with
            | (d, none) => .ok (d, ρ)
            | _ => .bad := by simp only [ev] <;> rfl
          rw [e1] at q
          cases hg : getV ρ i with
          | bad => rw [hg] at q; exact False.elim q
          | ex k v => exact absurd hg getV_ex
          | ok dl =>
            rw [hg] at q
            obtain ⟨vo, hσ, ro⟩ := r.slot i dl (getV_ok hg)
            have rd : RD T H vo dl := ro.here r.sub
            simp only [R.bind_ok] at q
            cases hp : prim .idx [dl, .int n] with
            | bad => rw [hp] at q; exact False.elim q
            | ex k v => exact absurd hp prim_ne_ex
            | ok d =>
              rw [hp] at q
              simp only [R.bind_ok] at q
              refine ⟨vo, hσ, ?_⟩
              refine ⟨H, [dl, .int n], d, Le.refl H, .cons (RO.part (Le.refl H) (Nat.zero_le 1) (.frz rd)) rd (.cons (RD.int n) (RD.int n) .nil), hp, fun v H1 fp le ro1 nd nw => ?_⟩
              have rd1 : RD T H v d := ro1.zero
              have hl1 : fd.np = 1 := by simpa using hlen.symm
              refine ⟨rfl, by rw [hl1]; rfl, H, none, [d], le, by rw [hio]; rfl, .cons rd1 .nil, ?_⟩
              cases hcf : c f [d] with
              | bad => rw [hcf] at q; exact False.elim q
              | ex k v => rw [hcf] at q; exact False.elim q
              | ok z =>
                obtain ⟨d2, gg⟩ := z
                rw [hcf] at q
                cases gg with
                | some gg => exact False.elim q
                | none =>
                  refine fun v2 F2 H2 fp2 hd a1 a2 a3 a4 a5 _ => ?_
                  have hd : scalar d2 = true := hd.elim id fun z => by rw [hscal] at z; cases z
                  have keep : ∀ a, H a ≠ none → H2 a = H a := fun a ha => by
                    cases e : H a with
                    | none => exact absurd e ha
                    | some o =>
                      have e2 := le a o e
                      rw [a2.h a ⟨by rw [e2]; simp, by simp⟩, e2]
                  have rel : Rel T W ia F H2 σ ρ g fps := by
                    refine ⟨r.len, fun a o e => ?_, fun i d e => ?_, fun i a m => ?_, r.nd, r.dj, fun a w => ?_, r.iok⟩
                    · have := r.sub a o e
                      rw [keep a (by rw [this]; simp)]; exact this
                    · obtain ⟨v, e1, ro⟩ := r.slot i d e
                      exact ⟨v, e1, ro.stab (Le.refl F) fun a m => ⟨keep a (r.own i a m).1, (r.own i a m).2.1⟩⟩
                    · obtain ⟨h1, h2, h3⟩ := r.own i a m
                      exact ⟨by rw [keep a h1]; exact h1, h2, h3⟩
                    · rw [keep a (r.held a w)]; exact r.held a w
                  have pres : Pres W F H F H2 := ⟨Le.refl F, fun a w => keep a (r.held a w), fun _ _ n => n, fun a n => by rw [keep a n]; exact n⟩
                  exact (show EPost T W ia g 9 F H Wx σ Q (.ok (d2, ρ)) from q) v2 F H2 fps [] rel pres (.sc hd (RD.scl hd (a3.scl hd))) New.nil
        exact ⟨pe, tT_of ok.hK pe rfl⟩
    · cases h
  · cases h
/-- a call that hands back no object, all that stands frozen for its time -/
theorem m_callz {f : Nat} (ih : MEs I T G c k N false es) : ME I T G c k N io (.callz f es) := by
  intro X sc Wx ex g g' l ok hsc h
  simp only [chkE] at h
  split at h
  · rename_i fd exs hca
    split at h
    · rename_i hc
      obtain ⟨g1, h1, h⟩ := bind_some h
      cases h
      simp only [Bool.and_eq_true, Bool.not_eq_true'] at hc
      obtain ⟨hio, hscal⟩ := hc
      have hcall : chkE I N false sc (.call f es) ex (List.replicate g.length 0) = some (9, g1) := by
        simp only [chkE, hca, hio, hscal, Bool.false_eq_true, if_false, if_true]
        rw [h1]; rfl
      have pe0 := (m_call ih ok hsc hcall).1
      have pe : PE X ex (tI T G c io Wx (.callz f es) g g 9) := by
        refine PE.of pe0 fun σ H Q ⟨W, ia, F, ρ, fps, hi, r, q⟩ => ?_
        have hz : ∀ i, (List.replicate g.length 0).getD i 0 = 0 := fun i => by
          rw [List.getD_eq_getElem?_getD, List.getElem?_replicate]
          split <;> rfl
        have r0 : Rel T (fun a => H a ≠ none) none H H σ ρ (List.replicate g.length 0) (fun _ => []) := by
          refine ⟨r.len, Le.refl H, fun i d e => ?_, fun i a m => by simp at m, fun i => List.nodup_nil, fun i j a m => by simp at m, fun a w => w, fun a e => by cases e⟩
          obtain ⟨v, e1, ro⟩ := r.slot i d e
          exact ⟨v, e1, by rw [hz]; exact .frz (ro.here r.sub)⟩
        refine ⟨_, none, H, ρ, _, rfl, r0, ?_⟩
        have e1 : ev G c (.callz f es) ρ = (noex (evOps G c es ρ)).bind fun (ds, _) => (noex (c f ds)).bind fun r => match r with
          | (d, none) => if scalar d then .ok (d, ρ) else .bad
          | _ => .bad := by simp only [ev] <;> rfl
        have e2 : ev G c (.call f es) ρ = (evOps G c es ρ).bind fun (ds, ρ1) => (c f ds).bind fun r => match r with
          | (d, none) => .ok (d, ρ1)
          | _ => .bad := by simp only [ev] <;> rfl
        rw [e1] at q
        rw [e2]
        cases hs : evOps G c es ρ with
        | bad => rw [hs] at q; exact False.elim q
        | ex k v => rw [hs] at q; exact False.elim q
        | ok z =>
          obtain ⟨ds, ρ1⟩ := z
          rw [hs] at q
          simp only [noex, R.bind_ok] at q ⊢
          cases hcf : c f ds with
          | bad => rw [hcf] at q; exact False.elim q
          | ex k v => rw [hcf] at q; exact False.elim q
          | ok z =>
            obtain ⟨d, gg⟩ := z
            rw [hcf] at q
            cases gg with
            | some gg => exact False.elim q
            | none =>
              simp only [R.bind_ok] at q ⊢
              by_cases hd : scalar d = true
              · rw [if_pos hd] at q
                intro v F2 H2 fps2 fp rel pr ro new
                have keep : ∀ a, H a ≠ none → H2 a = H a := pr.h
                have relF : Rel T W ia F H2 σ ρ g fps := by
                  refine ⟨r.len, fun a o e => ?_, fun i d e => ?_, fun i a m => ?_, r.nd, r.dj, fun a w => ?_, r.iok⟩
                  · have := r.sub a o e
                    rw [keep a (by rw [this]; simp)]; exact this
                  · obtain ⟨v, e1, ro⟩ := r.slot i d e
                    exact ⟨v, e1, ro.stab (Le.refl F) fun a m => ⟨keep a (r.own i a m).1, (r.own i a m).2.1⟩⟩
                  · obtain ⟨h1, h2, h3⟩ := r.own i a m
                    exact ⟨by rw [keep a h1]; exact h1, h2, h3⟩
                  · rw [keep a (r.held a w)]; exact r.held a w
                have presF : Pres W F H F H2 := ⟨Le.refl F, fun a w => keep a (r.held a w), fun _ _ n => n, fun a n => by rw [keep a n]; exact n⟩
                exact (show EPost T W ia g 9 F H Wx σ Q (.ok (d, ρ)) from q) v F H2 fps [] relF presF (.sc hd (RD.scl hd (ro.scl hd))) New.nil
              · rw [if_neg hd] at q; exact False.elim q
      have ht : plainT ex = true := by
        obtain ⟨_, _, _, _, _, rfl, _⟩ := callArgs_of hca
        rfl
      exact ⟨pe, tT_of ok.hK pe ht⟩
    · cases h
  · cases h
end
end Fh
end
section
set_option maxRecDepth 100000
set_option maxHeartbeats 4000000
/-! zip(a, b, strict=True) of two lists of one length, as an iterator. -/
namespace Zs
open PySem PySem.Spec PyProof.Rows L2

/-- a strict zip's cell -/
abbrev SZip (h : Heap) (z TI TO : Addr) (f0 : Value) : Prop := h.get? z = some { cls := .type "zip", dict := none, data := .fields #[f0, .bool false, .bool true, .ref TI, .ref TO], slots := #[] }

section
variable {prog : Program} {w : World} {A : Around} {E : Value → Shared → Prop} {s : Shared}
theorem orEnd_item {it l : Addr} {i : Nat} {items : Array Value} {x : Value} {Q : Option Value → Shared → Prop} (hit : s.heap.IsListIter it l i) (hl : s.heap.IsList l items) (hx : items[i]? = some x)
    (hQ : ∀ h', h'.IsListIter it l (i + 1) → Heap.SameBut it s.heap h' → Q (some x) { s with heap := h' }) : wpAny (model prog w) A (Builtin.SmallTypes.nextOrEnd (.ref it)) Q E s := by
  unfold Builtin.SmallTypes.nextOrEnd
  exact wpAny_bind (wpAny_attempt (wpAny_nextOf_list_item hit hl hx fun h' a b => wpAny_pure (hQ h' a b)))
theorem orEnd_end {it l : Addr} {i : Nat} {items : Array Value} {Q : Option Value → Shared → Prop} (hh : A.handled = none) (hit : s.heap.IsListIter it l i) (hl : s.heap.IsList l items) (hx : items[i]? = none)
    (hQ : ∀ h', Heap.ExtBut it s.heap h' → Q none { s with heap := h' }) : wpAny (model prog w) A (Builtin.SmallTypes.nextOrEnd (.ref it)) Q E s := by
  unfold Builtin.SmallTypes.nextOrEnd
  refine wpAny_bind (wpAny_attempt (wpAny_nextOf_list_end hh hit hl hx fun h' e x he => ?_))
  obtain ⟨o, ho, hc⟩ := he
  refine wpAny_bind (wpAny_isInstance (T := "StopIteration") (b := true) ⟨o, ho, hc⟩ isSubtype_stop ?_)
  exact wpAny_pure (hQ h' x)
/-- what no cell of the zip is -/
abbrev Off (z TO i1 i2 : Addr) (h h' : Heap) : Prop := ∀ c o, c ≠ z → c ≠ TO → c ≠ i1 → c ≠ i2 → h.get? c = some o → h'.get? c = some o
/-- the turn: each of the two is asked, the pair is handed out -/
theorem szip_item {z TI TO i1 i2 l1 l2 : Addr} {k1 k2 : Nat} {xs ys : Array Value} {x y a b : Value} {Q : Value → Shared → Prop}
    (D : ZipApart z TI TO i1 i2 l1 l2) (hz : SZip s.heap z TI TO .none) (hTI : IsPair s.heap TI (.ref i1) (.ref i2))
    (hTO : IsPair s.heap TO a b) (h1 : s.heap.IsListIter i1 l1 k1) (h2 : s.heap.IsListIter i2 l2 k2)
    (hl1 : s.heap.IsList l1 xs) (hl2 : s.heap.IsList l2 ys) (hx : xs[k1]? = some x) (hy : ys[k2]? = some y)
    (hQ : ∀ h', SZip h' z TI TO (rawInt s.heap.objs.size) → IsPair h' TO x y → h'.IsListIter i1 l1 (k1 + 1) → h'.IsListIter i2 l2 (k2 + 1) →
      IsPair h' s.heap.objs.size x y → h'.objs.size = s.heap.objs.size + 1 → Off z TO i1 i2 s.heap h' → Q (.ref s.heap.objs.size) { s with heap := h' }) :
    wpAny (model prog w) A (Builtin.«zip.__next__» ⟨[.ref z], []⟩) (fun fin s' => ∃ v, fin = .done (.ret v) ∧ Q v s') E s := by
  show wpAny _ _ (field (.ref z) 2 >>= _) _ _ _
  refine wpAny_bind (wpAny_field hz rfl (x := .bool true) rfl (show wpAny _ _ (field (.ref z) 3 >>= _) _ _ _ from ?_))
  refine wpAny_bind (wpAny_field hz rfl (x := .ref TI) rfl (wpAny_bind (wpAny_seqItems hTI rfl ?_)))
  refine wpAny_bind (show wpAny _ _ (Builtin.SmallTypes.ownedTupleIsFree (.ref z)) _ _ _ from ?_)
  unfold Builtin.SmallTypes.ownedTupleIsFree
  refine wpAny_bind (wpAny_field hz rfl (x := .none) rfl (wpAny_pure ?_)); simp only [if_true]
  refine wpAny_bind (wpAny_rule (wpAny_bind (wpAny_field hz rfl (x := .ref TO) rfl ?_)))
  refine wpAny_bind (wpAny_setField_rec hz (by simp) fun g1 zz1 t1 => wpAny_bind ?_)
  replace zz1 : SZip g1 z TI TO .ellipsis := zz1
  simp only [List.zipIdx_cons, List.zipIdx_nil, List.forIn_cons, List.forIn_nil]
  refine wpAny_bind (wpAny_bind (wpAny_onRaise (show wpAny _ _ (Builtin.SmallTypes.nextOrEnd (.ref i1)) _ _ _ from ?_)))
  refine orEnd_item (h1.extBut t1.extBut D.i1z) (hl1.extBut t1.extBut D.l1z) hx fun g2 j1 t2 => ?_
  have p2 : IsPair g2 TO a b := t2.extBut _ _ D.TOi1 (t1.extBut _ _ D.TOz hTO)
  refine wpAny_bind (wpAny_seqItems p2 rfl (wpAny_bind (wpAny_updateSeq_pair p2 fun g3 p3 t3 => wpAny_bind (wpAny_letGo (wpAny_pure ?_)))))
  replace p3 : IsPair g3 TO x b := p3
  refine wpAny_bind (wpAny_bind (wpAny_onRaise (show wpAny _ _ (Builtin.SmallTypes.nextOrEnd (.ref i2)) _ _ _ from ?_)))
  refine orEnd_item (((h2.extBut t1.extBut D.i2z).extBut t2.extBut D.i12.symm).extBut t3.extBut D.TOi2.symm) (((hl2.extBut t1.extBut D.l2z).extBut t2.extBut D.l2i1).extBut t3.extBut D.l2TO) hy fun g4 j2 t4 => ?_
  have p4 : IsPair g4 TO x b := t4.extBut _ _ D.TOi2 p3
  refine wpAny_bind (wpAny_seqItems p4 rfl (wpAny_bind (wpAny_updateSeq_pair p4 fun g5 p5 t5 => wpAny_bind (wpAny_letGo (wpAny_pure (wpAny_pure ?_))))))
  replace p5 : IsPair g5 TO x y := p5
  refine wpAny_bind (wpAny_seqItems p5 rfl (wpAny_bind (wpAny_newTuple ?_)))
  have sz : g5.objs.size = s.heap.objs.size := by rw [t5.1, t4.1, t3.1, t2.1, t1.1]
  have zz5 : SZip g5 z TI TO .ellipsis := t5.extBut _ _ D.TOz.symm (t4.extBut _ _ D.i2z.symm (t3.extBut _ _ D.TOz.symm (t2.extBut _ _ D.i1z.symm zz1)))
  have off5 : Off z TO i1 i2 s.heap g5 := fun c o c1 c2 c3 c4 e => t5.extBut _ _ c2 (t4.extBut _ _ c4 (t3.extBut _ _ c2 (t2.extBut _ _ c3 (t1.extBut _ _ c1 e))))
  have j15 : g5.IsListIter i1 l1 (k1 + 1) := ((j1.extBut t3.extBut D.TOi1.symm).extBut t4.extBut D.i12).extBut t5.extBut D.TOi1.symm
  have j25 : g5.IsListIter i2 l2 (k2 + 1) := j2.extBut t5.extBut D.TOi2.symm
  have lt : ∀ {c o}, g5.get? c = some o → g5.objs.size ≠ c := fun e => Nat.ne_of_gt (Heap.lt_size e)
  refine wpAny_bind (show wpAny _ _ (Builtin.SmallTypes.ownedTupleHandOut (.ref z) (.ref g5.objs.size)) _ _ _ from ?_)
  unfold Builtin.SmallTypes.ownedTupleHandOut
  have zz6 : SZip (g5.push { cls := .type "tuple", data := .seq #[x, y] }) z TI TO .ellipsis := Heap.get?_push_of_some _ zz5
  refine wpAny_bind (wpAny_setField_rec zz6 (by simp) fun g7 zz7 t7 => ?_)
  replace zz7 : SZip g7 z TI TO (rawInt g5.objs.size) := zz7
  refine wpAny_setField_rec zz7 (by simp) fun g8 zz8 t8 => ?_
  replace zz8 : SZip g8 z TI TO (rawInt g5.objs.size) := zz8
  have up : ∀ c o, c ≠ z → g5.get? c = some o → g8.get? c = some o := fun c o c1 e => t8.extBut _ _ c1 (t7.extBut _ _ c1 (Heap.get?_push_of_some _ e))
  have new8 : IsPair g8 g5.objs.size x y := t8.extBut _ _ (lt zz5) (t7.extBut _ _ (lt zz5) (Heap.get?_push_size _ rfl))
  have sz8 : g8.objs.size = g5.objs.size + 1 := by rw [t8.1, t7.1, Heap.size_push]
  rw [sz] at zz8 new8 sz8
  refine wpAny_pure ⟨_, rfl, show Q (.ref g5.objs.size) _ from ?_⟩
  rw [sz]
  exact hQ g8 zz8 (up _ _ D.TOz p5) (j15.at fun o e => up _ o D.i1z e) (j25.at fun o e => up _ o D.i2z e) new8 sz8 fun c o c1 c2 c3 c4 e => up c o c1 (off5 c o c1 c2 c3 c4 e)
/-- both at their end -/
theorem szip_end {z TI TO i1 i2 l1 l2 : Addr} {k1 k2 : Nat} {xs ys : Array Value} {Q : Fin → Shared → Prop} (hh : A.handled = none)
    (D : ZipApart z TI TO i1 i2 l1 l2) (hz : SZip s.heap z TI TO .none) (hTI : IsPair s.heap TI (.ref i1) (.ref i2))
    (h1 : s.heap.IsListIter i1 l1 k1) (h2 : s.heap.IsListIter i2 l2 k2) (hl1 : s.heap.IsList l1 xs) (hl2 : s.heap.IsList l2 ys)
    (hx : xs[k1]? = none) (hy : ys[k2]? = none) {TOo : Obj} (hTO : s.heap.get? TO = some TOo)
    (hE : ∀ h' e, Off z TO i1 i2 s.heap h' → (∃ o, h'.get? e = some o ∧ o.cls = .type "StopIteration") → E (.ref e) { s with heap := h' }) :
    wpAny (model prog w) A (Builtin.«zip.__next__» ⟨[.ref z], []⟩) Q E s := by
  show wpAny _ _ (field (.ref z) 2 >>= _) _ _ _
  refine wpAny_bind (wpAny_field hz rfl (x := .bool true) rfl (show wpAny _ _ (field (.ref z) 3 >>= _) _ _ _ from ?_))
  refine wpAny_bind (wpAny_field hz rfl (x := .ref TI) rfl (wpAny_bind (wpAny_seqItems hTI rfl ?_)))
  refine wpAny_bind (show wpAny _ _ (Builtin.SmallTypes.ownedTupleIsFree (.ref z)) _ _ _ from ?_)
  unfold Builtin.SmallTypes.ownedTupleIsFree
  refine wpAny_bind (wpAny_field hz rfl (x := .none) rfl (wpAny_pure ?_)); simp only [if_true]
  refine wpAny_bind (wpAny_rule (wpAny_bind (wpAny_field hz rfl (x := .ref TO) rfl ?_)))
  refine wpAny_bind (wpAny_setField_rec hz (by simp) fun g1 zz1 t1 => wpAny_bind ?_)
  replace zz1 : SZip g1 z TI TO .ellipsis := zz1
  simp only [List.zipIdx_cons, List.zipIdx_nil, List.forIn_cons, List.forIn_nil]
  refine wpAny_bind (wpAny_bind (wpAny_onRaise (show wpAny _ _ (Builtin.SmallTypes.nextOrEnd (.ref i1)) _ _ _ from ?_)))
  refine orEnd_end hh (h1.extBut t1.extBut D.i1z) (hl1.extBut t1.extBut D.l1z) hx fun g2 t2 => ?_
  have zz2 : SZip g2 z TI TO .ellipsis := t2 _ _ D.i1z.symm zz1
  refine wpAny_bind (wpAny_setField_rec zz2 (by simp) fun g3 zz3 t3 => wpAny_bind ?_)
  have j2 : g3.IsListIter i2 l2 k2 := ((h2.extBut t1.extBut D.i2z).extBut t2 D.i12.symm).extBut t3.extBut D.i2z
  have m2 : g3.IsList l2 ys := ((hl2.extBut t1.extBut D.l2z).extBut t2 D.l2i1).extBut t3.extBut D.l2z
  have q : ∀ {A' : Around} {E' : Value → Shared → Prop} {Q' : Option Value → Shared → Prop}, A'.handled = none → (∀ h', Heap.ExtBut i2 g3 h' → Q' none { s with heap := h' }) →
      wpAny (model prog w) A' (Builtin.SmallTypes.nextOrEnd (.ref i2)) Q' E' { s with heap := g3 } := fun hh q => orEnd_end (s := { s with heap := g3 }) hh j2 m2 hy q
  wp_walk using q hh
  intro g4 t4
  simp only [Option.isSome_none, Bool.false_eq_true, if_false]
  refine wpAny_pure (show wpAny _ _ (pure _) _ _ _ from wpAny_pure ?_)
  wp_walk
  simp only [raiseNew]
  refine wpAny_bind (wpAny_handled ?_)
  rw [hh]
  refine wpAny_bind (wpAny_pure (wpAny_throw ?_))
  refine hE _ _ (fun c o c1 _ c3 c4 e => ?_) ⟨_, Heap.get?_push_size _ rfl, rfl⟩
  exact Heap.get?_push_of_some _ (Heap.get?_push_of_some _ (t4 _ _ c4 (t3.extBut _ _ c1 (t2 _ _ c3 (t1.extBut _ _ c1 e)))))
theorem next_item {z TI TO i1 i2 l1 l2 : Addr} {k1 k2 : Nat} {xs ys : Array Value} {x y a b : Value} {Q : Option Value → Shared → Prop}
    (D : ZipApart z TI TO i1 i2 l1 l2) (hz : SZip s.heap z TI TO .none) (hTI : IsPair s.heap TI (.ref i1) (.ref i2))
    (hTO : IsPair s.heap TO a b) (h1 : s.heap.IsListIter i1 l1 k1) (h2 : s.heap.IsListIter i2 l2 k2)
    (hl1 : s.heap.IsList l1 xs) (hl2 : s.heap.IsList l2 ys) (hx : xs[k1]? = some x) (hy : ys[k2]? = some y)
    (hQ : ∀ h', SZip h' z TI TO (rawInt s.heap.objs.size) → IsPair h' TO x y → h'.IsListIter i1 l1 (k1 + 1) → h'.IsListIter i2 l2 (k2 + 1) →
      IsPair h' s.heap.objs.size x y → h'.objs.size = s.heap.objs.size + 1 → Off z TO i1 i2 s.heap h' → Q (some (.ref s.heap.objs.size)) { s with heap := h' }) :
    wpAny (model prog w) A (pyNext (.ref z)) Q E s := by
  have ty : s.TypeIs (.ref z) "zip" := ⟨_, hz, rfl⟩
  unfold pyNext
  refine wpAny_bind (wpAny_attempt (wpAny_callSpecial?_slot (name := Str.ofString "__next__") ty F.slot_zip_next (wpAny_call_entry F.slot_zip_next ty F.entry_zip_next ?_ (F.args_zip_next_1 _))))
  exact szip_item D hz hTI hTO h1 h2 hl1 hl2 hx hy fun h' a1 a2 a3 a4 a5 a6 a7 => wpAny_pure (hQ h' a1 a2 a3 a4 a5 a6 a7)
theorem next_end {z TI TO i1 i2 l1 l2 : Addr} {k1 k2 : Nat} {xs ys : Array Value} {Q : Option Value → Shared → Prop} (hh : A.handled = none)
    (D : ZipApart z TI TO i1 i2 l1 l2) (hz : SZip s.heap z TI TO .none) (hTI : IsPair s.heap TI (.ref i1) (.ref i2))
    (h1 : s.heap.IsListIter i1 l1 k1) (h2 : s.heap.IsListIter i2 l2 k2) (hl1 : s.heap.IsList l1 xs) (hl2 : s.heap.IsList l2 ys)
    (hx : xs[k1]? = none) (hy : ys[k2]? = none) {TOo : Obj} (hTO : s.heap.get? TO = some TOo) (hQ : ∀ h', Off z TO i1 i2 s.heap h' → Q none { s with heap := h' }) :
    wpAny (model prog w) A (pyNext (.ref z)) Q E s := by
  have ty : s.TypeIs (.ref z) "zip" := ⟨_, hz, rfl⟩
  unfold pyNext
  refine wpAny_bind (wpAny_attempt (wpAny_callSpecial?_slot (name := Str.ofString "__next__") ty F.slot_zip_next (wpAny_call_entry F.slot_zip_next ty F.entry_zip_next ?_ (F.args_zip_next_1 _))))
  refine szip_end hh D hz hTI h1 h2 hl1 hl2 hx hy hTO fun h' e hk he => ?_
  obtain ⟨o, ho, hc⟩ := he
  exact wpAny_bind (wpAny_isInstance (T := "StopIteration") (b := true) ⟨o, ho, hc⟩ isSubtype_stop (wpAny_pure (hQ _ hk)))
theorem let_go {elts : List Expr} {x1} {pos : Pos} {z TI TO T : Addr} {Q : Unit → Shared → Prop} (hz : SZip s.heap z TI TO (rawInt T)) (hQ : ∀ h', SZip h' z TI TO .none → Heap.SameBut z s.heap h' → Q () { s with heap := h' }) :
    wpAny (model prog w) A (letOwnedTupleGo (.Tuple elts x1 pos) (.ref z) (.ref T)) Q E s := by
  unfold letOwnedTupleGo
  refine wpAny_bind (wpAny_load hz ?_)
  show wpAny _ _ (if (["enumerate", "zip", "dict_itemiterator", "dict_reverseitemiterator", "odict_iterator", "itertools.zip_longest", "itertools.pairwise"].contains "zip" && (#[rawInt T, .bool false, .bool true, .ref TI, .ref TO] : Array Value)[0]? == some (rawInt T)) = true then _ else _) Q E s
  rw [if_pos (by simp)]
  exact wpAny_bind (wpAny_rule (show wpAny _ _ (setField (.ref z) 0 .none) Q E s from wpAny_setField_rec hz (by simp) fun h' hz' hs' => hQ h' hz' hs'))
theorem iter_self {z TI TO : Addr} {f0 : Value} {Q : Value → Shared → Prop} (hz : SZip s.heap z TI TO f0) (h : Q (.ref z) s) : wpAny (model prog w) A (pyIter (.ref z)) Q E s := by
  have ty : s.TypeIs (.ref z) "zip" := ⟨_, hz, rfl⟩
  refine wpAny_pyIter_slot ty F.slot_zip_iter (wpAny_call_entry F.slot_zip_iter ty F.entry_zip_iter (show wpAny _ _ (ret (.ref z)) _ _ s from ?_) (F.args_zip_iter_1 _))
  exact wpAny_pure ⟨_, rfl, "zip", _, ty, F.slot_zip_next.lookup, h⟩
end
/-- the cells that a new one lays -/
abbrev lay4 (h : Heap) (l1 l2 : Addr) : Heap := zipH4 h l1 l2
abbrev lay5 (h : Heap) (l1 l2 : Addr) : Heap := (lay4 h l1 l2).push { cls := .type "zip", data := .fields #[.none, .bool false, .bool true, .ref (zipH2 h l1 l2).objs.size, .ref (zipH3 h l1 l2).objs.size] }
abbrev kws : List (Str × Value) := [(Str.ofString "strict", .bool true)]
theorem tc_ok (a b : Value) : checkTypeCall "zip" ⟨[a, b], kws⟩ = pure () := by kernel_rfl
theorem nc_ok (a b : Value) : checkBuiltinCall "zip.__new__" ⟨[.type "zip", a, b], kws⟩ = pure () := by kernel_rfl
theorem oi_ok (obj a b : Value) : argsOk "object.__init__" ⟨[obj, a, b], kws⟩ := by unfold argsOk; kernel_rfl
theorem meets_new (l1 l2 : Addr) (xs ys : Array Value) : Meets (Builtin.«zip.__new__» ⟨[.type "zip", .ref l1, .ref l2], kws⟩) (fun _ R s => s.heap.IsList l1 xs ∧ s.heap.IsList l2 ys ∧
      R (.ok (.ret (.ref (lay4 s.heap l1 l2).objs.size))) { s with heap := lay5 s.heap l1 l2 }) :=
  .of_wp fun prog w A R s h => by
    obtain ⟨hp, g, d, tk, os⟩ := s
    obtain ⟨hl1, hl2, h⟩ := h
    have hsub := sub_zip
    have e1 : (Str.ofString "strict" != ("strict" : Str)) = false := by decide +kernel
    have e2 : (Str.ofString "strict" == ("strict" : Str)) = true := by decide +kernel
    have hL1 : Heap.IsList (Shared.heap ⟨hp, g, d, tk, os⟩) l1 xs := hl1
    have hL2 : Heap.IsList (Shared.heap ⟨hp.push { cls := .type "list_iterator", data := .fields #[.ref l1, .int 0 0] }, g, d, tk, os⟩) l2 ys := Heap.IsList.push hl2 _
    wp_walk using wpAny_pyIter_list hL1, wpAny_pyIter_list hL2
    exact ⟨_, rfl, h⟩
end Zs
end
section
set_option maxRecDepth 100000
set_option maxHeartbeats 4000000
/-! .. and as what a loop walks. -/
namespace Zs
open PySem PySem.Spec PyProof.Rows L2
section
variable {prog : Program} {w : World} {A : Around} {E : Value → Shared → Prop} {s : Shared}
theorem call_szip {l1 l2 : Addr} {xs ys : Array Value} {Q : Value → Shared → Prop} (hl1 : s.heap.IsList l1 xs) (hl2 : s.heap.IsList l2 ys)
    (h : ∀ h', SZip h' (s.heap.objs.size + 4) (s.heap.objs.size + 2) (s.heap.objs.size + 3) .none → IsPair h' (s.heap.objs.size + 2) (.ref s.heap.objs.size) (.ref (s.heap.objs.size + 1)) → IsPair h' (s.heap.objs.size + 3) .none .none →
      h'.IsListIter s.heap.objs.size l1 0 → h'.IsListIter (s.heap.objs.size + 1) l2 0 → (∀ c o, s.heap.get? c = some o → h'.get? c = some o) → Q (.ref (s.heap.objs.size + 4)) { s with heap := h' }) :
    wpAny (model prog w) A (call (.type "zip") [.ref l1, .ref l2] kws) Q E s := by
  refine callType_newKw F.called_zip (by decide) (tc_ok _ _) (nc_ok _ _) (fun obj => oi_ok obj _ _) F.entry_zip_new (meets_new l1 l2 xs ys) ⟨hl1, hl2, show _ ∧ _ from ?_⟩
  have z1 : (zipH1 s.heap l1).objs.size = s.heap.objs.size + 1 := Heap.size_push ..
  have z2 : (zipH2 s.heap l1 l2).objs.size = s.heap.objs.size + 2 := (Heap.size_push ..).trans (by rw [z1])
  have z3 : (zipH3 s.heap l1 l2).objs.size = s.heap.objs.size + 3 := (Heap.size_push ..).trans (by rw [z2])
  have z4 : (lay4 s.heap l1 l2).objs.size = s.heap.objs.size + 4 := (Heap.size_push ..).trans (by rw [z3])
  have c5 : (lay5 s.heap l1 l2).get? (lay4 s.heap l1 l2).objs.size = some _ := Heap.get?_push_size _ rfl
  have c4 : (lay5 s.heap l1 l2).get? (zipH3 s.heap l1 l2).objs.size = some _ := Heap.get?_push_of_some _ (Heap.get?_push_size _ rfl)
  have c3 : (lay5 s.heap l1 l2).get? (zipH2 s.heap l1 l2).objs.size = some _ := Heap.get?_push_of_some _ (Heap.get?_push_of_some _ (Heap.get?_push_size _ rfl))
  have c2 : (lay5 s.heap l1 l2).get? (zipH1 s.heap l1).objs.size = some _ := Heap.get?_push_of_some _ (Heap.get?_push_of_some _ (Heap.get?_push_of_some _ (Heap.get?_push_size _ rfl)))
  have c1 : (lay5 s.heap l1 l2).get? s.heap.objs.size = some _ := Heap.get?_push_of_some _ (Heap.get?_push_of_some _ (Heap.get?_push_of_some _ (Heap.get?_push_of_some _ (Heap.get?_push_size _ rfl))))
  rw [z2, z3, z4] at c5; rw [z1, z2] at c3; rw [z3] at c4; rw [z1] at c2; rw [z4]
  refine ⟨⟨_, c5, rfl⟩, h _ c5 c3 c4 ⟨_, c1, rfl, rfl⟩ ⟨_, c2, rfl, rfl⟩ fun c o x => ?_⟩
  exact Heap.get?_push_of_some _ (Heap.get?_push_of_some _ (Heap.get?_push_of_some _ (Heap.get?_push_of_some _ (Heap.get?_push_of_some _ x))))
theorem callWith_typeK {pos : Pos} {T : String} {first : List Value} {args : List (Bool × Sem Value)} {keywords : List (Option Str × Sem Value)} {Q : Value → Shared → Prop} (hp : args.any (·.1) = false) (hk : keywords.any (·.1.isNone) = false)
    (h : wpAny (model prog w) A (evalArgs (.type T) true args keywords) (fun a s₁ => wpAny (model prog w) A (call (.type T) (first ++ a.pos) a.kw) Q E s₁) E s) : wpAny (model prog w) A (callWith pos (.type T) first args keywords) Q E s := by
  unfold callWith
  refine wpAny_bind (wpAny_holding (wpAny_mono h (fun a t ht => wpAny_bind (wpAny_standAt ?_)) fun _ _ x => x)); simp only [hp, hk, Bool.or_false]
  exact wpAny_bind (wpAny_pure (wpAny_bind (wpAny_mono ht (fun r t2 hr => wpAny_bind (wpAny_holding (wpAny_point (wpAny_pure hr)))) fun _ _ x => x)))
end
/-- the two lists as they stand at each turn; both end together -/
def Its (K : PySem.W.Frag) (a b : Addr) : It := ⟨(Itz K a b).go, (Itz K a b).yld, fun i H => ∃ xs ys : List V, SqL K H a xs ∧ SqL K H b ys ∧ xs.length ≤ i ∧ ys.length ≤ i⟩
theorem turn_s {P : Program} {w : World} {K : PySem.W.Frag} {elts : List Expr} {kk : Nat} {tpos : Pos} {a b z TI TO i1 i2 : Addr} (D : ZipApart z TI TO i1 i2 a b) :
    Turn P w K (.Tuple elts kk tpos) (Its K a b) [z, TI, TO, i1, i2] z (fun i h => SZip h z TI TO .none ∧ IsPair h TI (.ref i1) (.ref i2) ∧ (∃ x y, IsPair h TO x y) ∧ h.IsListIter i1 a i ∧ h.IsListIter i2 b i) where
  mem := by simp
  obj := fun i h st c hc => by
    obtain ⟨hz, hTI, ⟨x, y, hTO⟩, ⟨o1, e1, _, d1⟩, ⟨o2, e2, _, d2⟩⟩ := st
    rcases (show c = z ∨ c = TI ∨ c = TO ∨ c = i1 ∨ c = i2 by simpa using hc) with rfl | rfl | rfl | rfl | rfl
    · exact ⟨_, hz, fun v q => nomatch q⟩
    · exact ⟨_, hTI, fun v q => nomatch q⟩
    · exact ⟨_, hTO, fun v q => nomatch q⟩
    · exact ⟨o1, e1, fun v q => by rw [d1] at q; cases q⟩
    · exact ⟨o2, e2, fun v q => by rw [d2] at q; cases q⟩
  keep := fun i h h' st k => by
    obtain ⟨hz, hTI, ⟨x, y, hTO⟩, h1, h2⟩ := st
    refine ⟨k z (by simp) _ hz, k TI (by simp) _ hTI, ⟨x, y, k TO (by simp) _ hTO⟩, h1.at fun o q => k i1 (by simp) o q, ?_⟩
    exact h2.at fun o q => k i2 (by simp) o q
  item := by
    intro X hP hw hK hc i pins s σ H E I hf st hg
    subst hP hw hK
    obtain ⟨hz, hTI, ⟨x0, y0, hTO⟩, h1, h2⟩ := st
    obtain ⟨xs, ys, x, y, hqx, hqy, hx, hy⟩ := hg
    obtain ⟨its, rv, p, _⟩ := I.list hqx
    obtain ⟨its2, rv2, p2, _⟩ := I.list hqy
    obtain ⟨u, hu, ru⟩ := rv.get hx
    obtain ⟨u2, hu2, ru2⟩ := rv2.get hy
    have hzl : z < s.heap.objs.size := Heap.lt_size hz
    refine next_item D hz hTI hTO h1 h2 p.isList p2.isList (x := u) (y := u2) (by simpa using hu) (by simpa using hu2) fun h' z' TO' h1' h2' hT hsz hk => ⟨_, rfl, let_go (s := { s with heap := h' }) z' fun h'' z'' sb => ?_⟩
    have hT2 : h''.get? s.heap.objs.size = some { cls := .type "tuple", data := .seq #[u, u2] } := (sb.2 _ (Nat.ne_of_gt hzl)).trans hT
    have new : ObjOk X.prog X.w (upd H s.heap.objs.size (.tup [x, y])) h'' s.heap.objs.size (.tup [x, y]) := ⟨by show 2 ≤ sizeLine; decide, [u, u2], .cons ru (.cons ru2 .nil), ⟨_, hT2, rfl, _, rfl⟩⟩
    have chg : ∀ c o, c ∉ [z, TI, TO, i1, i2] → s.heap.get? c = some o → h''.get? c = some o := fun c o hb q => by
      have n : c ≠ z ∧ c ≠ TI ∧ c ≠ TO ∧ c ≠ i1 ∧ c ≠ i2 := by simpa using hb
      exact (sb.2 c n.1).trans (hk c o n.1 n.2.2.1 n.2.2.2.1 n.2.2.2.2 q)
    have I1 : Inv X pins σ (upd H s.heap.objs.size (.tup [x, y])) { s with heap := h'' } := I.turnedNew (t' := s.toks) (ch := [z, TI, TO, i1, i2]) chg hf (Nat.le_refl _) new
    refine ⟨.ref s.heap.objs.size, _, I1, rfl, ⟨_, x, y, rfl, I.hok.fresh (Nat.le_refl _), rfl, fun l hl => by rw [I.list_inj hl hqx]; exact hx, fun l hl => by rw [I.list_inj hl hqy]; exact hy⟩, ⟨z'', ?_, ⟨u, u2, (sb.2 _ D.TOz).trans TO'⟩, h1'.at fun o q => (sb.2 _ D.i1z).trans q, h2'.at fun o q => (sb.2 _ D.i2z).trans q⟩, fun c hcm => ?_⟩
    · exact (sb.2 _ D.TIz).trans (hk _ _ D.TIz D.TITO D.TIi1 D.TIi2 hTI)
    · have hlt : c < s.heap.objs.size := by
        rcases (show c = z ∨ c = TI ∨ c = TO ∨ c = i1 ∨ c = i2 by simpa using hcm) with rfl | rfl | rfl | rfl | rfl
        · exact hzl
        · exact Heap.lt_size hTI
        · exact Heap.lt_size hTO
        · obtain ⟨_, e1, _⟩ := h1; exact Heap.lt_size e1
        · obtain ⟨_, e2, _⟩ := h2; exact Heap.lt_size e2
      rw [upd_ne (Nat.ne_of_lt hlt)]; exact (hf c hcm).1
  done := by
    intro X hP hw hK hc i pins s σ H E I hf st hg
    subst hP hw hK
    obtain ⟨hz, hTI, ⟨x0, y0, hTO⟩, h1, h2⟩ := st
    obtain ⟨xs, ys, hqx, hqy, e1, e2⟩ := hg
    obtain ⟨its, rv, p, _⟩ := I.list hqx
    obtain ⟨its2, rv2, p2, _⟩ := I.list hqy
    have n1 := rv.length
    have n2 := rv2.length
    refine next_end (I.ok.hd hc) D hz hTI h1 h2 p.isList p2.isList (by simp; omega) (by simp; omega) hTO fun h' hk => ⟨rfl, I.turnedL (t' := s.toks) (ch := [z, TI, TO, i1, i2]) (fun c o hb q => ?_) hf⟩
    have n : c ≠ z ∧ c ≠ TI ∧ c ≠ TO ∧ c ≠ i1 ∧ c ≠ i2 := by simpa using hb
    exact hk c o n.1 n.2.2.1 n.2.2.2.1 n.2.2.2.2 q
  self := fun A i s Q E st h => iter_self st.1 h
theorem walk_s {K : PySem.W.Frag} {a b : Addr} {xs ys : List V} (hn : xs.length = ys.length) : Walk (Its K a b) xs.length (fun H => SqL K H a xs ∧ SqL K H b ys) (YPair (fun i => xs[i]?) (fun i => ys[i]?)) := by
  refine ⟨fun i _ hi q => ⟨xs, ys, xs[i], ys[i], q.1, q.2, by simp [hi], by simp⟩, fun _ q => ⟨xs, ys, q.1, q.2, Nat.le_refl _, by omega⟩, fun i H v H' _ q y => ?_⟩
  obtain ⟨T, x, z, h1, h2, h3, h4, h5⟩ := y
  exact ⟨T, x, z, h1, h2, h3, h4 xs q.1, h5 ys q.2⟩
def iS (K : PySem.W.Frag) (ta : TA) : TI := fun σ H R => ta σ H fun vs H1 => ∃ a b xs ys, vs = [.ref a, .ref b] ∧ SqL K H1 a xs ∧ SqL K H1 b ys ∧ R (Its K a b) H1
theorem pi_s {X : Cx} {e e2 : Expr} {ta : TA} {p pos tpos kp cp : Pos} {kj : Nat} {elts : List Expr} {kk : Nat} (hg : Gl X "zip") (hm : X.mg "zip" = none) (ha : PA X [e, e2] ta)
    (hs : starEach [e, e2] X.env = (false, eval e X.env) :: starEach [e2] X.env) (hpl : (backTo pos (starEach [e2] X.env)).any (·.1) = false) :
    PI X (.Tuple elts kk tpos) (.Call (.Name "zip" p) [e, e2] [⟨some "strict", .Constant (.bool true) kj cp, kp⟩] pos) (iS X.K ta) := by
  refine ⟨fun pins s σ H R I h => ?_⟩
  refine wpAny_Call_Name_kw (ld_blt I hg hm PyProof.Rows.boot_zip ?_)
  refine callWith_typeK (by rw [hs]; show (false || (backTo pos (starEach [e2] X.env)).any (·.1)) = false; rw [hpl]; rfl) rfl (PyProof.Rows.evalArgs_kw2 rfl (thn (ha.run pos pins s σ H _ I h) fun us s1 ⟨vs, H1, I1, r1, q1⟩ => ?_) hs)
  obtain ⟨a, b, xs, ys, rfl, hqx, hqy, q⟩ := q1
  have hk : PK X [⟨some "strict", .Constant (.bool true) kj cp, kp⟩] _ := pk_cons pe_bl pk_nil
  refine thn (hk.run pos pins s1 σ H1 (fun zs H2 => zs = [.bl true] ∧ H2 = H1) I1 ⟨rfl, rfl⟩) fun ws s2 ⟨zs, H2, I2, rz, e1, e2⟩ => ?_
  subst e1; subst e2
  cases r1 with
  | cons ra rr =>
    cases rr with
    | cons rb rr =>
      cases rr
      cases ra
      cases rb
      cases rz with
      | cons rc rr =>
        cases rr
        cases rc
        obtain ⟨its, rv, p1, _⟩ := I2.list hqx
        obtain ⟨its2, rv2, p2, _⟩ := I2.list hqy
        refine call_szip p1.isList p2.isList fun h' hz hTI hTO h1 h2 hk => iter_self hz ?_
        have I3 : Inv X pins σ H2 { s2 with heap := h' } := I2.kept (t' := s2.toks) hk
        have fresh : ∀ c ∈ [s2.heap.objs.size + 4, s2.heap.objs.size + 2, s2.heap.objs.size + 3, s2.heap.objs.size, s2.heap.objs.size + 1], FpOk X pins H2 c := fun c hcm => by
          have hle : s2.heap.objs.size ≤ c := by
            have : c = s2.heap.objs.size + 4 ∨ c = s2.heap.objs.size + 2 ∨ c = s2.heap.objs.size + 3 ∨ c = s2.heap.objs.size ∨ c = s2.heap.objs.size + 1 := by simpa using hcm
            rcases this with z | z | z | z | z <;> (rw [z]; first | exact Nat.le_refl _ | exact Nat.le_add_right _ _)
          exact I2.fpOk hle (I2.hok.fresh hle)
        exact ⟨s2.heap.objs.size + 4, [s2.heap.objs.size + 4, s2.heap.objs.size + 2, s2.heap.objs.size + 3, s2.heap.objs.size, s2.heap.objs.size + 1], _, _, H2, rfl, I3, turn_s (PySem.W.ktu_apart s2.heap.objs.size a b p1.lt p2.lt), ⟨hz, hTI, ⟨_, _, hTO⟩, h1, h2⟩, fresh, q⟩
end Zs
end
section
set_option maxRecDepth 100000
set_option maxHeartbeats 2000000
/-! What a loop walks; targets. -/
namespace Fh
open PySem PySem.Spec PyProof.Rows L2

/-- the walk J gives what stands for ds, one after another, while what is frozen stands -/
structure Wk (T : Tb) (F : Hp) (J : L2.It) (ds : List D) : Prop where
  go : ∀ i H, i < ds.length → Le F H → J.go i H
  stop : ∀ H, Le F H → J.stop ds.length H
  yld : ∀ i H x H', i < ds.length → Le F H → J.yld i H x H' → ∃ d k fp, ds[i]? = some d ∧ Le H H' ∧ (∀ F', Le F F' → Le F' H → RO T F' H' k x d fp) ∧ fp.Nodup ∧ ∀ a ∈ fp, H a = none ∧ H' a ≠ none

section
variable {T : Tb} {F : Hp} {J : L2.It} {ds : List D}
theorem Wk.of {n : Nat} {G : Hp → Prop} {Y : Nat → Hp → V → Hp → Prop} (w : Walk J n G Y) (hn : n = ds.length) (hg : ∀ H, Le F H → G H)
    (hy : ∀ i H x H', i < ds.length → Le F H → Y i H x H' → ∃ d k fp, ds[i]? = some d ∧ Le H H' ∧ (∀ F', Le F F' → Le F' H → RO T F' H' k x d fp) ∧ fp.Nodup ∧ ∀ a ∈ fp, H a = none ∧ H' a ≠ none) : Wk T F J ds := by
  subst hn
  exact ⟨fun i H h l => w.goes i H h (hg H l), fun H l => w.stops H (hg H l), fun i H x H' h l y => hy i H x H' h l (w.yields i H x H' h (hg H l) y)⟩
theorem wk_list {a : Addr} {vs : List V} (h : LL T.K F a vs) (r : RDs T F vs ds) : Wk T F (Itl T.K a) ds :=
  Wk.of walk_list r.length (fun H l => (LL.le l h).sq) fun i H x H' hi l ⟨e1, e2⟩ => by
    subst e1
    obtain ⟨d, h1, h2⟩ := r.getV e2
    exact ⟨d, 0, [], h1, Le.refl _, fun F' f _ => .frz (h2.le f), List.nodup_nil, fun a m => by simp at m⟩
theorem wk_tup {a : Addr} {vs : List V} (h : SqT T.K F a vs) (r : RDs T F vs ds) : Wk T F (Itt T.K a) ds :=
  Wk.of walk_tup r.length (fun H l => SqT.le l h) fun i H x H' hi l ⟨e1, e2⟩ => by
    subst e1
    obtain ⟨d, h1, h2⟩ := r.getV e2
    exact ⟨d, 0, [], h1, Le.refl _, fun F' f _ => .frz (h2.le f), List.nodup_nil, fun a m => by simp at m⟩
theorem wk_range {i j : Int} : Wk T F (Itr i (j - i).toNat) (rng i j) :=
  Wk.of walk_range (by simp [rng]) (fun H l => trivial) fun n H x H' hi l ⟨e1, e2⟩ => by
    subst e1; subst e2
    have hn : n < (j - i).toNat := by simpa [rng] using hi
    exact ⟨.int (i + (n : Int)), 0, [], by simp [rng, List.getElem?_map, List.getElem?_range hn], Le.refl _, fun F' f _ => .frz (.int _), List.nodup_nil, fun a m => by simp at m⟩
theorem wk_str {s : Str} : Wk T F (Its s) (s.cps.toList.map fun c => D.str ⟨#[c]⟩) :=
  Wk.of walk_str (by simp) (fun H l => trivial) fun n H x H' hi l ⟨e1, c, e2, e3⟩ => by
    subst e1; subst e3
    exact ⟨.str ⟨#[c]⟩, 0, [], by simp [List.getElem?_map, e2], Le.refl _, fun F' f _ => .frz (.str _), List.nodup_nil, fun a m => by simp at m⟩
/-- a new pair -/
theorem pair_new {H : Hp} {q : Addr} {x y : V} {d e : D} (hq : H q = none) (hd : RD T F x d) (he : RD T F y e) :
    Le H (upd H q (.tup [x, y])) ∧ (∀ F', Le F F' → Le F' H → RO T F' (upd H q (.tup [x, y])) 1 (.ref q) (.tup [d, e]) [q]) ∧ [q].Nodup ∧ ∀ a ∈ [q], H a = none ∧ upd H q (.tup [x, y]) a ≠ none := by
  refine ⟨le_upd hq, fun F' f l => .tup upd_same (none_of_le l hq) ?_, by simp, fun a m => ?_⟩
  · exact (RDs.cons (hd.le f) (.cons (he.le f) .nil)).ros0
  · obtain rfl : a = q := by simpa using m
    exact ⟨hq, by rw [upd_same]; simp⟩
theorem wk_enum {a : Addr} {vs : List V} (h : LL T.K F a vs) (r : RDs T F vs ds) : Wk T F (Ite T.K a) (ds.zipIdx.map fun p => D.tup [.int p.2, p.1]) :=
  Wk.of walk_enum (by simp [r.length]) (fun H l => (LL.le l h).sq) fun i H x H' hi l ⟨q, u, v, e1, e2, e3, e4, e5⟩ => by
    subst e1; subst e3
    cases e4
    obtain ⟨d, h1, h2⟩ := r.getV e5
    obtain ⟨k1, k2, k3, k4⟩ := pair_new (T := T) (F := F) (x := .int (i : Nat)) (y := v) (d := .int (i : Nat)) e2 (.int _) h2
    exact ⟨.tup [.int (i : Nat), d], 1, [q], by simp [List.getElem?_map, List.getElem?_zipIdx, h1], k1, k2, k3, k4⟩
theorem zip_get {α β : Type} {xs : List α} {ys : List β} {i : Nat} {a : α} {b : β} (h : xs[i]? = some a) (k : ys[i]? = some b) : (xs.zip ys)[i]? = some (a, b) := by
  obtain ⟨h1, h2⟩ := List.getElem?_eq_some_iff.mp h
  obtain ⟨k1, k2⟩ := List.getElem?_eq_some_iff.mp k
  rw [List.getElem?_eq_some_iff]
  exact ⟨by rw [List.length_zip]; omega, by rw [List.getElem_zip, h2, k2]⟩
theorem wk_zip {a b : Addr} {vs ws : List V} {es : List D} (h : LL T.K F a vs) (r : RDs T F vs ds) (h2 : LL T.K F b ws) (r2 : RDs T F ws es) : Wk T F (Itz T.K a b) ((ds.zip es).map fun p => D.tup [p.1, p.2]) :=
  Wk.of (walk_zip rfl) (by simp [r.length, r2.length]) (fun H l => ⟨(LL.le l h).sq, (LL.le l h2).sq⟩) fun i H x H' hi l ⟨q, u, v, e1, e2, e3, e4, e5⟩ => by
    subst e1; subst e3
    obtain ⟨d, h1, h3⟩ := r.getV e4
    obtain ⟨e, h4, h5⟩ := r2.getV e5
    obtain ⟨k1, k2, k3, k4⟩ := pair_new (T := T) (F := F) e2 h3 h5
    exact ⟨.tup [d, e], 1, [q], by rw [List.getElem?_map, zip_get h1 h4]; rfl, k1, k2, k3, k4⟩
theorem wk_zips {a b : Addr} {vs ws : List V} {es : List D} (h : LL T.K F a vs) (r : RDs T F vs ds) (h2 : LL T.K F b ws) (r2 : RDs T F ws es) (hl : ds.length = es.length) : Wk T F (Zs.Its T.K a b) ((ds.zip es).map fun p => D.tup [p.1, p.2]) := by
  have n1 := r.length
  have n2 := r2.length
  refine Wk.of (Zs.walk_s (by omega)) (by simp; omega) (fun H l => ⟨(LL.le l h).sq, (LL.le l h2).sq⟩) fun i H x H' hi l ⟨q, u, v, e1, e2, e3, e4, e5⟩ => ?_
  subst e1; subst e3
  obtain ⟨d, h1, h3⟩ := r.getV e4
  obtain ⟨e, h4, h5⟩ := r2.getV e5
  obtain ⟨k1, k2, k3, k4⟩ := pair_new (T := T) (F := F) e2 h3 h5
  exact ⟨.tup [d, e], 1, [q], by rw [List.getElem?_map, zip_get h1 h4]; rfl, k1, k2, k3, k4⟩
theorem wk_zipT {a b : Addr} {vs ws : List V} {es : List D} (h : SqT T.K F a vs) (r : RDs T F vs ds) (h2 : SqT T.K F b ws) (r2 : RDs T F ws es) : Wk T F (RZ.ItzT T.K a b) ((ds.zip es).map fun p => D.tup [p.1, p.2]) := by
  have l1 := r.length
  have l2 := r2.length
  refine ⟨fun i H hi l => ?_, fun H l => ?_, fun i H x H' hi l y => ?_⟩
  · have : i < ds.length ∧ i < es.length := by simp at hi; omega
    exact ⟨vs, ws, vs[i], ws[i], SqT.le l h, SqT.le l h2, by simp [show i < vs.length by omega], by simp [show i < ws.length by omega]⟩
  · exact ⟨vs, ws, SqT.le l h, SqT.le l h2, by simp; omega⟩
  · obtain ⟨q, u, v, e1, e2, e3, e4, e5⟩ := y
    subst e1; subst e3
    obtain ⟨d, h1, h3⟩ := r.getV (e4 vs (SqT.le l h))
    obtain ⟨e, h4, h5⟩ := r2.getV (e5 ws (SqT.le l h2))
    obtain ⟨k1, k2, k3, k4⟩ := pair_new (T := T) (F := F) e2 h3 h5
    exact ⟨.tup [d, e], 1, [q], by rw [List.getElem?_map, zip_get h1 h4]; rfl, k1, k2, k3, k4⟩
end

section
variable (T : Tb) (G : Nat → R D) (c : Callee) (io : Bool) (Wx : WX)
def IPost (W : Addr → Prop) (ia : Option Addr) (g' : Lv) (F H : Hp) (σ : L2.St) (R0 : L2.It → Hp → Prop) : R (List D × DEnv) → Prop
  | .ok (ds, ρ') => ∀ J F' H' fps', Rel T W ia F' H' σ ρ' g' fps' → Pres W F H F' H' → Wk T F' J ds → R0 J H'
  | .ex c dv => XPost T W F H Wx σ c dv
  | .bad => False
def tIt (it : It) (g g' : Lv) : TI := fun σ H R0 => ∃ W ia F ρ fps, ia.isSome = io ∧ Rel T W ia F H σ ρ g fps ∧ IPost T Wx W ia g' F H σ R0 (evIt G c it ρ)
end
section
variable (I : Info) (T : Tb) (G : Nat → R D) (c : Callee) (k : Nat) (N : List Str) (io : Bool)
def isTup : Expr → Bool
  | .Tuple _ _ _ => true
  | _ => false
def MIt (it : It) : Prop := ∀ {X : Cx} {sc : Scope} {Wx : WX} {ex tg : Expr} {g g' : Lv}, Ok I T G c k N Wx X → X.env.scope = sc → chkIt I N io sc it ex (isTup tg) g = some g' → PI X tg ex (tIt T G c io Wx it g g') ∧ ∀ x, foldedSetIterable ex X.env x = pure x
end
section
variable {I : Info} {T : Tb} {G : Nat → R D} {c : Callee} {k : Nat} {N : List Str} {io : Bool} {X : Cx} {sc : Scope} {Wx : WX} {g g' g1 : Lv} {ex tg : Expr} {e : E} {es : Es} {W : Addr → Prop} {ia : Option Addr} {F H : Hp} {σ : L2.St} {Q : VK} {l : Nat} {ρ : DEnv} {fps : Nat → List Addr} {exs : List Expr}

theorem noSet_fold (h : noSet ex = true) : ∀ x, foldedSetIterable ex X.env x = pure x := by
  intro x
  cases ex <;> first | rfl | (simp [noSet] at h; done)
theorem itemsOf_ex {d : D} {k : Nat} {v : D} : itemsOf d ≠ .ex k v := by
  cases d <;> simp [itemsOf]
  split <;> simp
theorem it_over (i1 : ME I T G c k N io e) : MIt I T G c k N io (.over e) := by
  intro X sc Wx ex tg g g' ok hsc h
  simp only [chkIt] at h
  split at h
  · rename_i hns
    obtain ⟨⟨l, g1⟩, h1, h⟩ := bind_some h
    cases h
    simp only [Bool.and_eq_true] at hns
    have pe := s_low (i1 ok hsc h1).1
    refine ⟨⟨fun pins s σ H R0 I0 q => ?_⟩, noSet_fold hns.1⟩
    obtain ⟨W, ia, F, ρ, fps, hi, r, q⟩ := q
    have e1 : evIt G c (.over e) ρ = (ev G c e ρ).bind fun (d, ρ1) => (itemsOf d).bind fun xs => .ok (xs, ρ1) := by simp only [evIt]
    rw [e1] at q
    cases hs : ev G c e ρ with
    | bad => rw [hs] at q; exact False.elim q
    | ex k v =>
      rw [hs] at q
      refine (pi_list pe).run pins s σ H R0 I0 ⟨W, ia, F, ρ, fps, hi, r, ?_⟩
      rw [hs]; exact q
    | ok z =>
      obtain ⟨d, ρ1⟩ := z
      rw [hs] at q
      simp only [R.bind_ok] at q
      cases hd : itemsOf d with
      | bad => rw [hd] at q; exact False.elim q
      | ex k v => exact absurd hd itemsOf_ex
      | ok xs =>
        rw [hd] at q
        simp only [R.bind_ok] at q
        cases d <;> first | (cases hd; done) | skip
        · -- a text
          rename_i z
          have hd : (if z.length ≤ SZ then R.ok (z.cps.toList.map fun c => D.str ⟨#[c]⟩) else .bad) = .ok xs := hd
          split at hd
          · cases hd
            refine (pi_str pe).run pins s σ H R0 I0 ⟨W, ia, F, ρ, fps, hi, r, ?_⟩
            rw [hs]
            intro v F' H' fps' fp a1 a2 a3 a4
            have := a3.zero
            cases this
            exact ⟨z, rfl, q _ F' H' fps' a1 a2 wk_str⟩
          · cases hd
        · rename_i ys
          cases hd
          refine (pi_list pe).run pins s σ H R0 I0 ⟨W, ia, F, ρ, fps, hi, r, ?_⟩
          rw [hs]
          intro v F' H' fps' fp a1 a2 a3 a4
          have := a3.zero
          cases this with
          | list hl hr =>
            exact ⟨_, rfl, ⟨_, by rw [ok.hK]; exact (LL.le a1.sub hl).sq⟩, by rw [ok.hK]; exact q _ F' H' fps' a1 a2 (wk_list hl hr)⟩
        · rename_i ys
          cases hd
          refine (pi_tup pe).run pins s σ H R0 I0 ⟨W, ia, F, ρ, fps, hi, r, ?_⟩
          rw [hs]
          intro v F' H' fps' fp a1 a2 a3 a4
          have := a3.zero
          cases this with
          | tup hl hr =>
            exact ⟨_, rfl, ⟨_, by rw [ok.hK]; exact SqT.le a1.sub hl⟩, by rw [ok.hK]; exact q _ F' H' fps' a1 a2 (wk_tup hl hr)⟩
  · cases h
theorem rangeOf_cases {ds xs : List D} (h : rangeOf ds = .ok xs) : (∃ j, ds = [.int j] ∧ inR j = true ∧ xs = rng 0 j) ∨ ∃ i j, ds = [.int i, .int j] ∧ inR i = true ∧ inR j = true ∧ xs = rng i j := by
  unfold rangeOf at h
  split at h
  · split at h
    · cases h; exact .inl ⟨_, rfl, by assumption, rfl⟩
    · cases h
  · split at h
    · rename_i hc
      cases h
      simp only [Bool.and_eq_true] at hc
      exact .inr ⟨_, _, rfl, hc.1, hc.2, rfl⟩
    · cases h
  · cases h
theorem rangeOf_ex {ds : List D} {k : Nat} {v : D} : rangeOf ds ≠ .ex k v := by
  unfold rangeOf
  split
  · split <;> simp
  · split <;> simp
  · simp
theorem inR_of {i : Int} (h : inR i = true) : -(2 ^ 62) ≤ i ∧ i < 2 ^ 62 := by
  unfold inR at h
  simpa using h
theorem it_range (i1 : MEs I T G c k N io es) : MIt I T G c k N io (.range es) := by
  intro X sc Wx ex tg g g' ok hsc h
  simp only [chkIt] at h
  split at h
  · rename_i x p args pos
    split at h
    · rename_i hc
      simp only [Bool.and_eq_true, decide_eq_true_eq] at hc
      obtain ⟨⟨rfl, hx⟩, hl⟩ := hc
      obtain ⟨h3, h4, h5⟩ := gl_of hsc hx
      have hp := (i1 ok hsc).1 _ _ _ h
      have hm := ok.bl "range" (by decide)
      have pa := hp.pa
      have hst := hp.stars
      refine ⟨⟨fun pins s σ H R0 I0 q => ?_⟩, fun _ => rfl⟩
      obtain ⟨W, ia, F, ρ, fps, hi, r, q⟩ := q
      have e1 : evIt G c (.range es) ρ = (evOps G c es ρ).bind fun (ds, ρ1) => (rangeOf ds).bind fun xs => .ok (xs, ρ1) := by simp only [evIt]
      rw [e1] at q
      -- what the operands give
      have key : ∀ (wi : TI), (∀ σ H R0, tOps T G c io Wx es g g' σ H (fun vs H1 => ∃ ds xs F' fps' ρ', Rel T W ia F' H1 σ ρ' g' fps' ∧ (∃ F2, Parts T F2 H1 vs ds) ∧ rangeOf ds = .ok xs ∧ vs.length = args.length ∧ (∀ J, Wk T F' J xs → R0 J H1)) → wi σ H R0) → wi σ H R0 := by
        intro wi hwi
        refine hwi _ _ _ ⟨W, ia, F, ρ, fps, hi, r, ?_⟩
        cases hs : evOps G c es ρ with
        | bad => rw [hs] at q; exact q
        | ex k v => rw [hs] at q; exact q
        | ok z =>
          obtain ⟨ds, ρ1⟩ := z
          rw [hs] at q
          simp only [R.bind_ok] at q
          intro vs F' H' fps' fp a1 a2 a3 a4
          cases hd : rangeOf ds with
          | bad => rw [hd] at q; exact False.elim q
          | ex k v => exact absurd hd rangeOf_ex
          | ok xs =>
            rw [hd] at q
            exact ⟨ds, xs, F', fps', ρ1, a1, (let ⟨F2, _, _, ps⟩ := a3.partsF a1; ⟨F2, ps⟩), hd, by rw [a3.len, hp.len], fun J hw => q J F' H' fps' a1 a2 hw⟩
      cases args with
      | nil => simp at hl
      | cons a args =>
        cases args with
        | nil =>
          refine (pi_range1 h3 hm pa (star_of (hst a List.mem_cons_self))).run pins s σ H R0 I0 (key _ fun σ H R0 q => ?_)
          refine monoA_tOps _ _ _ _ (fun vs H1 z => ?_) q
          obtain ⟨ds, xs, F', fps', ρ', r', ⟨F2, ps⟩, hd, hl2, hw⟩ := z
          rcases rangeOf_cases hd with ⟨j, rfl, c1, rfl⟩ | ⟨i, j, rfl, c1, c2, rfl⟩
          · match vs, ps with
            | [v], .cons p1 _ .nil =>
              rw [p1.int]
              refine ⟨j, rfl, (inR_of c1).1, (inR_of c1).2, hw _ ?_⟩
              have := wk_range (T := T) (F := F') (i := 0) (j := j)
              simpa using this
          · match vs, ps with
            | [v, w], _ => simp at hl2
        | cons b args =>
          cases args with
          | cons d args => simp at hl
          | nil =>
            have s1 := star_of (X := X) (exs := [b]) (hst a List.mem_cons_self)
            have s2 := star_of (X := X) (exs := []) (hst b (by simp))
            refine (pi_range2 h3 hm pa (by rw [s1, s2]; rfl) (by rw [s2]; rfl)).run pins s σ H R0 I0 (key _ fun σ H R0 q => ?_)
            refine monoA_tOps _ _ _ _ (fun vs H1 z => ?_) q
            obtain ⟨ds, xs, F', fps', ρ', r', ⟨F2, ps⟩, hd, hl2, hw⟩ := z
            rcases rangeOf_cases hd with ⟨j, rfl, c1, rfl⟩ | ⟨i, j, rfl, c1, c2, rfl⟩
            · match vs, ps with
              | [v], _ => simp at hl2
            · match vs, ps with
              | [v, w], .cons p1 _ (.cons p2 _ .nil) =>
                rw [p1.int, p2.int]
                exact ⟨i, j, rfl, ⟨(inR_of c1).1, (inR_of c1).2, (inR_of c2).1, (inR_of c2).2⟩, hw _ wk_range⟩
    · cases h
  · cases h

theorem enumOf_cases {ds xs : List D} (h : enumOf ds = .ok xs) : ∃ ys, ds = [.list ys] ∧ xs = ys.zipIdx.map fun p => .tup [.int p.2, p.1] := by
  unfold enumOf at h
  split at h
  · cases h; exact ⟨_, rfl, rfl⟩
  · cases h
theorem enumOf_ex {ds : List D} {k : Nat} {v : D} : enumOf ds ≠ .ex k v := by
  unfold enumOf
  split <;> simp
theorem zipOf_cases {ds xs : List D} (h : zipOf ds = .ok xs) : (∃ ys zs, ds = [.list ys, .list zs] ∧ xs = (ys.zip zs).map fun p => .tup [p.1, p.2]) ∨ ∃ ys zs, ds = [.tup ys, .tup zs] ∧ xs = (ys.zip zs).map fun p => .tup [p.1, p.2] := by
  unfold zipOf at h
  split at h
  · cases h; exact .inl ⟨_, _, rfl, rfl⟩
  · cases h; exact .inr ⟨_, _, rfl, rfl⟩
  · cases h
theorem zipOf_ex {ds : List D} {k : Nat} {v : D} : zipOf ds ≠ .ex k v := by
  unfold zipOf
  split <;> simp
/-- values whose list a walk takes: the reading of it -/
theorem rd_vals {K : List D → R (List D)} {R0 : L2.It → Hp → Prop} (q : IPost T Wx W ia g' F H σ R0 ((evs G c es ρ).bind fun (ds, ρ1) => (K ds).bind fun xs => .ok (xs, ρ1))) (hK : ∀ ds k v, K ds ≠ .ex k v)
    (hi : ia.isSome = io) (r : Rel T W ia F H σ ρ g fps) :
    tEs T G c io Wx es g g' 0 σ H fun vs H1 => ∃ ds xs F', RDs T F' vs ds ∧ Le F' H1 ∧ K ds = .ok xs ∧ vs.length = es.len ∧ (∀ J, Wk T F' J xs → R0 J H1) := by
  refine ⟨W, ia, F, ρ, fps, hi, r, ?_⟩
  cases hs : evs G c es ρ with
  | bad => rw [hs] at q; exact q
  | ex k v => rw [hs] at q; exact q
  | ok z =>
    obtain ⟨ds, ρ1⟩ := z
    rw [hs] at q
    simp only [R.bind_ok] at q
    intro vs F' H' fps' fp a1 a2 a3 a4
    cases hd : K ds with
    | bad => rw [hd] at q; exact False.elim q
    | ex k v => exact absurd hd (hK _ _ _)
    | ok xs =>
      rw [hd] at q
      exact ⟨ds, xs, F', a3.zero, a1.sub, hd, by rw [a3.length, evs_len hs], fun J hw => q J F' H' fps' a1 a2 hw⟩
theorem mono_tEs {Q Q' : List V → Hp → Prop} {m : Nat} (h : tEs T G c io Wx es g g' m σ H Q) (hm : ∀ v H', Q v H' → Q' v H') : tEs T G c io Wx es g g' m σ H Q' := by
  obtain ⟨W, ia, F, ρ, fps, hi, r, q⟩ := h
  refine ⟨W, ia, F, ρ, fps, hi, r, ?_⟩
  unfold APost at q ⊢
  split at q
  · exact fun v F' H' fps' fp a1 a2 a3 a4 => hm _ _ (q v F' H' fps' fp a1 a2 a3 a4)
  · exact q
  · exact q
theorem isTup_of (h : isTup tg = true) : ∃ es k p, tg = .Tuple es k p := by
  cases tg <;> first | (simp [isTup] at h; done) | exact ⟨_, _, _, rfl⟩
theorem it_enum (i1 : MEs I T G c k N io es) : MIt I T G c k N io (.enum es) := by
  intro X sc Wx ex tg g g' ok hsc h
  simp only [chkIt] at h
  split at h
  · rename_i x p args pos
    split at h
    · rename_i hc
      simp only [Bool.and_eq_true, decide_eq_true_eq] at hc
      obtain ⟨⟨⟨ht, rfl⟩, hx⟩, hl⟩ := hc
      obtain ⟨te, tk, tp, rfl⟩ := isTup_of ht
      obtain ⟨h3, h4, h5⟩ := gl_of hsc hx
      obtain ⟨⟨l, g1⟩, h1, h⟩ := bind_some h
      cases h
      obtain ⟨pa, hst⟩ := (i1 ok hsc).2.1 _ _ _ _ 0 h1 (Nat.zero_le _)
      refine ⟨⟨fun pins s σ H R0 I0 q => ?_⟩, fun _ => rfl⟩
      obtain ⟨W, ia, F, ρ, fps, hi, r, q⟩ := q
      have e1 : evIt G c (.enum es) ρ = (evs G c es ρ).bind fun (ds, ρ1) => (enumOf ds).bind fun xs => .ok (xs, ρ1) := by simp only [evIt]
      rw [e1] at q
      match args, hl with
      | [a], _ =>
        refine (pi_enum h3 (ok.bl "enumerate" (by decide)) pa (star_of (hst a List.mem_cons_self))).run pins s σ H R0 I0 ?_
        refine mono_tEs (rd_vals q (fun _ _ _ => enumOf_ex) hi r) fun vs H1 z => ?_
        obtain ⟨ds, xs, F', rd, le, hd, hl2, hw⟩ := z
        obtain ⟨ys, rfl, rfl⟩ := enumOf_cases hd
        match vs, rd with
        | [v], .cons rv .nil =>
          cases rv with
          | list hl hr => exact ⟨_, _, rfl, by rw [ok.hK]; exact (LL.le le hl).sq, by rw [ok.hK]; exact hw _ (wk_enum hl hr)⟩
    · cases h
  · cases h
theorem it_zip (i1 : MEs I T G c k N io es) : MIt I T G c k N io (.zip es) := by
  intro X sc Wx ex tg g g' ok hsc h
  simp only [chkIt] at h
  split at h
  · rename_i x p args pos
    split at h
    · rename_i hc
      simp only [Bool.and_eq_true, decide_eq_true_eq] at hc
      obtain ⟨⟨⟨ht, rfl⟩, hx⟩, hl⟩ := hc
      obtain ⟨te, tk, tp, rfl⟩ := isTup_of ht
      obtain ⟨h3, h4, h5⟩ := gl_of hsc hx
      obtain ⟨⟨l, g1⟩, h1, h⟩ := bind_some h
      cases h
      obtain ⟨pa, hst⟩ := (i1 ok hsc).2.1 _ _ _ _ 0 h1 (Nat.zero_le _)
      refine ⟨⟨fun pins s σ H R0 I0 q => ?_⟩, fun _ => rfl⟩
      obtain ⟨W, ia, F, ρ, fps, hi, r, q⟩ := q
      have e1 : evIt G c (.zip es) ρ = (evs G c es ρ).bind fun (ds, ρ1) => (zipOf ds).bind fun xs => .ok (xs, ρ1) := by simp only [evIt]
      rw [e1] at q
      match args, hl with
      | [a, b], _ =>
        have s2 := star_of (X := X) (exs := []) (hst b (by simp))
        refine (RZ.pi_zipA h3 (ok.bl "zip" (by decide)) pa (star_of (hst a List.mem_cons_self)) (by rw [s2]; rfl)).run pins s σ H R0 I0 ?_
        refine mono_tEs (rd_vals q (fun _ _ _ => zipOf_ex) hi r) fun vs H1 z => ?_
        obtain ⟨ds, xs, F', rd, le, hd, hl2, hw⟩ := z
        rcases zipOf_cases hd with ⟨ys, zs, rfl, rfl⟩ | ⟨ys, zs, rfl, rfl⟩
        · match vs, rd with
          | [v, w], .cons rv (.cons rw' .nil) =>
            cases rv with
            | list hl hr =>
              cases rw' with
              | list hl' hr' => exact ⟨_, _, _, _, rfl, .inl ⟨by rw [ok.hK]; exact (LL.le le hl).sq, by rw [ok.hK]; exact (LL.le le hl').sq, by rw [ok.hK]; exact hw _ (wk_zip hl hr hl' hr')⟩⟩
        · match vs, rd with
          | [v, w], .cons rv (.cons rw' .nil) =>
            cases rv with
            | tup hl hr =>
              cases rw' with
              | tup hl' hr' => exact ⟨_, _, _, _, rfl, .inr ⟨by rw [ok.hK]; exact SqT.le le hl, by rw [ok.hK]; exact SqT.le le hl', by rw [ok.hK]; exact hw _ (wk_zipT hl hr hl' hr')⟩⟩
    · cases h
  · cases h

theorem zipsOf_cases {ds xs : List D} (h : zipsOf ds = .ok xs) : ∃ ys zs, ds = [.list ys, .list zs] ∧ ys.length = zs.length ∧ xs = (ys.zip zs).map fun p => .tup [p.1, p.2] := by
  unfold zipsOf at h
  split at h
  · split at h
    · cases h; exact ⟨_, _, rfl, by assumption, rfl⟩
    · cases h
  · cases h
theorem zipsOf_ex {ds : List D} {k : Nat} {v : D} : zipsOf ds ≠ .ex k v := by
  unfold zipsOf
  split
  · split <;> simp
  · simp
theorem it_zips (i1 : MEs I T G c k N io es) : MIt I T G c k N io (.zips es) := by
  intro X sc Wx ex tg g g' ok hsc h
  simp only [chkIt] at h
  split at h
  · rename_i x p args y kj cp kp pos
    split at h
    · rename_i hc
      simp only [Bool.and_eq_true, decide_eq_true_eq] at hc
      obtain ⟨⟨⟨⟨ht, rfl⟩, hx⟩, hl⟩, rfl⟩ := hc
      obtain ⟨te, tk, tp, rfl⟩ := isTup_of ht
      obtain ⟨h3, h4, h5⟩ := gl_of hsc hx
      obtain ⟨⟨l, g1⟩, h1, h⟩ := bind_some h
      cases h
      obtain ⟨pa, hst⟩ := (i1 ok hsc).2.1 _ _ _ _ 0 h1 (Nat.zero_le _)
      refine ⟨⟨fun pins s σ H R0 I0 q => ?_⟩, fun _ => rfl⟩
      obtain ⟨W, ia, F, ρ, fps, hi, r, q⟩ := q
      have e1 : evIt G c (.zips es) ρ = (evs G c es ρ).bind fun (ds, ρ1) => (zipsOf ds).bind fun xs => .ok (xs, ρ1) := by simp only [evIt]
      rw [e1] at q
      match args, hl with
      | [a, b], _ =>
        have s2 := star_of (X := X) (exs := []) (hst b (by simp))
        refine (Zs.pi_s h3 (ok.bl "zip" (by decide)) pa (star_of (hst a List.mem_cons_self)) (by rw [s2]; rfl)).run pins s σ H R0 I0 ?_
        refine mono_tEs (rd_vals q (fun _ _ _ => zipsOf_ex) hi r) fun vs H1 z => ?_
        obtain ⟨ds, xs, F', rd, le, hd, hl2, hw⟩ := z
        obtain ⟨ys, zs, rfl, hlen, rfl⟩ := zipsOf_cases hd
        match vs, rd with
        | [v, w], .cons rv (.cons rw' .nil) =>
          cases rv with
          | list hl hr =>
            cases rw' with
            | list hl' hr' => exact ⟨_, _, _, _, rfl, by rw [ok.hK]; exact (LL.le le hl).sq, by rw [ok.hK]; exact (LL.le le hl').sq, by rw [ok.hK]; exact hw _ (wk_zips hl hr hl' hr' hlen)⟩
    · cases h
  · cases h

/-! ### targets -/
def gNames : List Nat → TGs
  | [] => gNil
  | i :: is => gCons (gName i) (gNames is)
def gTg (K : PySem.W.Frag) : Tg → TG
  | .one i => gName i
  | .tup is => gTup K is.length (gNames is)
theorem assignEach_star {es : List Expr} (h : ∀ e ∈ es, ∃ x p, e = Expr.Name x p) : (assignEach es X.env).length = es.length ∧ (assignEach es X.env).findIdx? (·.1) = none := by
  induction es with
  | nil => exact ⟨rfl, rfl⟩
  | cons e es ih =>
    obtain ⟨x, p, rfl⟩ := h e List.mem_cons_self
    obtain ⟨h1, h2⟩ := ih fun e m => h e (List.mem_cons_of_mem _ m)
    have e1 : assignEach (Expr.Name x p :: es) X.env = (false, assign (Expr.Name x p) X.env) :: assignEach es X.env := rfl
    rw [e1]
    refine ⟨by simp [h1], ?_⟩
    rw [List.findIdx?_cons]
    simp [h2]
theorem pgs_names (hN : X.N = N) (hd : X.N.Nodup) : ∀ {is : List Nat} {es : List Expr}, is.length = es.length → ((is.zip es).all fun p => match p.2 with
      | .Name x _ => decide (N[p.1]? = some x)
      | _ => false) = true → (∀ i ∈ is, ∀ x, N[i]? = some x → Loc X.env.scope x ∧ (X.fn x = true ∨ X.env.scope.names.lookup x = some .local)) →
    PGs X es (gNames is) ∧ ∀ e ∈ es, ∃ x p, e = Expr.Name x p
  | [], [], _, _, _ => ⟨pgs_nil, fun e m => by simp at m⟩
  | i :: is, e :: es, hl, h, hloc => by
    simp only [List.zip_cons_cons, List.all_cons, Bool.and_eq_true] at h
    obtain ⟨h1, h2⟩ := h
    obtain ⟨k1, k2⟩ := pgs_names (is := is) (es := es) hN hd (by simpa using hl) h2 fun i m => hloc i (List.mem_cons_of_mem _ m)
    split at h1
    · rename_i x p
      have h1 := of_decide_eq_true h1
      obtain ⟨l1, l2⟩ := hloc i List.mem_cons_self x h1
      refine ⟨pgs_cons (pg_name hd (by rw [hN]; exact h1) l1 l2) k1 rfl, fun e m => ?_⟩
      rcases List.mem_cons.mp m with rfl | m
      · exact ⟨_, _, rfl⟩
      · exact k2 e m
    · cases h1
  | [], e :: es, hl, _, _ => by simp at hl
  | i :: is, [], hl, _, _ => by simp at hl
theorem pg_tg {t : Tg} (hN : X.N = N) (hd : X.N.Nodup) (hc : X.calm = true) (h : chkTg N t tg = true) (hloc : ∀ i ∈ t.slots, ∀ x, N[i]? = some x → Loc X.env.scope x ∧ (X.fn x = true ∨ X.env.scope.names.lookup x = some .local)) : PG X tg (gTg X.K t) := by
  unfold chkTg at h
  split at h
  · rename_i i x p
    have h := of_decide_eq_true h
    obtain ⟨l1, l2⟩ := hloc i (by simp [Tg.slots]) x h
    exact pg_name hd (by rw [hN]; exact h) l1 l2
  · rename_i is es kk p
    simp only [Bool.and_eq_true, decide_eq_true_eq] at h
    obtain ⟨k1, k2⟩ := pgs_names hN hd h.1 h.2 hloc
    obtain ⟨k3, k4⟩ := assignEach_star (X := X) k2
    exact pg_tup hc k1 (by rw [k3, h.1]) k4
  · cases h
/-- a slot gets a value -/
theorem Rel.put (r : Rel T W ia F H σ ρ g fps) {i : Nat} {v : V} {d : D} {fp : List Addr} (hg : i < g.length) (hi : ia = none ∨ i ≠ 0) (o : RO T F H l v d fp) (n : New W F H fps fp) : Rel T W ia F H (σ.set i (some v)) (ρ.set i (some d)) (g.set i l) (setF fps i fp) := by
  refine ⟨by rw [List.length_set, List.length_set]; exact r.len, r.sub, fun j d' e => ?_, fun j a m => ?_, fun j => ?_, fun j k a m1 m2 => ?_, r.held, fun a e => ?_⟩
  · by_cases hj : j = i
    · subst hj
      rw [List.getElem?_set_self'] at e
      cases hρ : ρ[j]? with
      | none => rw [hρ] at e; cases e
      | some o' =>
        rw [hρ] at e
        cases e
        have hlt : j < σ.length := by rw [r.len]; exact (List.getElem?_eq_some_iff.mp hρ).1
        exact ⟨v, List.getElem?_set_self hlt, by rw [getD_set g hg, if_pos rfl, setF_same]; exact o⟩
    · rw [List.getElem?_set_ne (Ne.symm hj)] at e
      obtain ⟨v', e1, o'⟩ := r.slot j d' e
      exact ⟨v', by rw [List.getElem?_set_ne (Ne.symm hj)]; exact e1, by rw [getD_set g hg, if_neg hj, setF_ne hj]; exact o'⟩
  · by_cases hj : j = i
    · subst hj
      rw [setF_same] at m
      obtain ⟨h1, h2, h3, h4⟩ := n.ok a m
      exact ⟨h3, h4, h1⟩
    · rw [setF_ne hj] at m; exact r.own j a m
  · by_cases hj : j = i
    · subst hj; rw [setF_same]; exact n.nd
    · rw [setF_ne hj]; exact r.nd j
  · by_cases hj : j = i
    · subst hj
      rw [setF_same] at m1
      by_cases hk : k = j
      · exact hk.symm
      · rw [setF_ne hk] at m2; exact absurd m2 ((n.ok a m1).2.1 k)
    · rw [setF_ne hj] at m1
      by_cases hk : k = i
      · subst hk
        rw [setF_same] at m2; exact absurd m1 ((n.ok a m2).2.1 j)
      · rw [setF_ne hk] at m2; exact r.dj j k a m1 m2
  · have h0 : (0 : Nat) ≠ i := by
      rcases hi with z | z
      · rw [z] at e; cases e
      · exact Ne.symm z
    obtain ⟨h1, h2, h3, d0, h4⟩ := r.iok a e
    exact ⟨by rw [List.getElem?_set_ne (Ne.symm h0)]; exact h1, by rw [setF_ne h0]; exact h2, by rw [getD_set g hg, if_neg h0]; exact h3, d0, by rw [List.getElem?_set_ne (Ne.symm h0)]; exact h4⟩
theorem set_same_g {g : Lv} {i : Nat} (h : g.getD i 0 = 0) : g.set i 0 = g := by
  apply List.ext_getElem? 
  intro j
  by_cases hj : j = i
  · subst hj
    rw [List.getElem?_set_self']
    cases e : g[j]? with
    | none => rfl
    | some a =>
      rw [List.getD_eq_getElem?_getD, e] at h
      have : a = 0 := h
      rw [this]; rfl
  · rw [List.getElem?_set_ne (Ne.symm hj)]
/-- several slots get frozen values -/
theorem puts {W : Addr → Prop} : ∀ {is : List Nat} {vs : List V} {ds : List D} {σ : L2.St} {ρ : DEnv} {fps : Nat → List Addr}, Rel T W ia F H σ ρ g fps → RDs T F vs ds → is.length = ds.length → (∀ i ∈ is, i < g.length ∧ g.getD i 0 = 0 ∧ (ia = none ∨ i ≠ 0)) →
    ∃ σ' fps', (∀ K : L2.St → Hp → Prop, K σ' H → gNames is vs σ H K) ∧ Rel T W ia F H σ' ((is.zip ds).foldl (fun r p => r.set p.1 (some p.2)) ρ) g fps' ∧ (σ' = (is.zip vs).foldl (fun r p => r.set p.1 (some p.2)) σ)
  | [], _, _, σ, ρ, fps, r, .nil, _, _ => ⟨σ, fps, fun K q => ⟨rfl, q⟩, r, rfl⟩
  | i :: is, _, _, σ, ρ, fps, r, .cons rv rs, hl, h => by
    obtain ⟨h1, h2, h3⟩ := h i List.mem_cons_self
    have r1 := r.put h1 h3 (.frz rv) New.nil
    rw [set_same_g h2] at r1
    obtain ⟨σ', fps', k1, k2, k3⟩ := puts r1 rs (by simpa using hl) fun i m => h i (List.mem_cons_of_mem _ m)
    exact ⟨σ', fps', fun K q => ⟨_, _, rfl, k1 K q⟩, k2, k3⟩
  | [], _, _, _, _, _, _, .cons _ _, hl, _ => by simp at hl
  | _ :: _, _, _, _, _, _, _, .nil, hl, _ => by simp at hl
/-- a target gets a frozen value -/
theorem tg_put {t : Tg} {ρ' : DEnv} {v : V} {d : D} (r : Rel T W ia F H σ ρ g fps) (rd : RD T F v d) (hs : t.set d ρ = .ok ρ') (h : ∀ i ∈ t.slots, i < g.length ∧ g.getD i 0 = 0 ∧ (ia = none ∨ i ≠ 0)) :
    ∃ σ' fps', (∀ K : L2.St → Hp → Prop, K σ' H → gTg T.K t v σ H K) ∧ Rel T W ia F H σ' ρ' g fps' ∧ σ'.length = σ.length ∧ ∀ j, j ∉ t.slots → σ'[j]? = σ[j]? := by
  cases t with
  | one i =>
    obtain ⟨h1, h2, h3⟩ := h i (by simp [Tg.slots])
    have e : ρ' = ρ.set i (some d) := by
      have := hs
      simp only [Tg.set] at this
      cases this; rfl
    subst e
    have r1 := r.put h1 h3 (.frz rd) New.nil
    rw [set_same_g h2] at r1
    exact ⟨_, _, fun K q => q, r1, by simp, fun j hj => List.getElem?_set_ne (by simp [Tg.slots] at hj; exact Ne.symm hj)⟩
  | tup is =>
    have hd : ∃ ds, d = .tup ds ∧ is.length = ds.length ∧ ρ' = (is.zip ds).foldl (fun r p => r.set p.1 (some p.2)) ρ := by
      cases d <;> simp only [Tg.set] at hs <;> first | (cases hs; done) | skip
      split at hs
      · cases hs; exact ⟨_, rfl, by assumption, rfl⟩
      · cases hs
    obtain ⟨ds, rfl, hl, rfl⟩ := hd
    cases rd with
    | @tup a vs _ hq hr =>
      obtain ⟨σ', fps', k1, k2, k3⟩ := puts r hr hl h
      refine ⟨σ', fps', fun K q => ⟨a, vs, rfl, SqT.le r.sub hq, by rw [hr.length, hl], k1 K q⟩, k2, ?_, ?_⟩
      · rw [k2.len]
        have : ∀ (l : List (Nat × D)) (ρ : DEnv), (l.foldl (fun r p => r.set p.1 (some p.2)) ρ).length = ρ.length := by
          intro l
          induction l with
          | nil => intro ρ; rfl
          | cons a l ih => intro ρ; simp only [List.foldl_cons]; rw [ih]; simp
        rw [this, r.len]
      · intro j hj
        rw [k3]
        have : ∀ (l : List (Nat × V)) (σ : L2.St), (∀ p ∈ l, p.1 ≠ j) → (l.foldl (fun r p => r.set p.1 (some p.2)) σ)[j]? = σ[j]? := by
          intro l
          induction l with
          | nil => intro σ _; rfl
          | cons a l ih => intro σ h; simp only [List.foldl_cons]; rw [ih _ fun p m => h p (List.mem_cons_of_mem _ m), List.getElem?_set_ne (h a List.mem_cons_self)]
        refine this _ _ fun p m z => hj ?_
        have := (List.of_mem_zip m).1
        rw [z] at this
        exact this
end
end Fh
end
section
set_option maxRecDepth 100000
set_option maxHeartbeats 2000000
/-! List comprehensions. -/
namespace Fh
open PySem PySem.Spec PyProof.Rows L2

abbrev WF : WX := fun _ _ _ _ => False
section
variable {I : Info} {T : Tb} {G : Nat → R D} {c : Callee} {k : Nat} {N : List Str} {io : Bool} {X : Cx} {sc : Scope} {Wx : WX} {g g' g1 : Lv} {ex tg : Expr} {e : E} {es : Es} {W W1 : Addr → Prop} {ia : Option Addr} {F F1 H H1 : Hp} {σ : L2.St} {Q : VK} {l : Nat} {ρ ρ1 ρ2 : DEnv} {fps fps1 fps2 : Nat → List Addr} {exs : List Expr} {own : List Nat}

theorem Ok.blk (ok : Ok I T G c k N Wx X) (s : Shared) (H : Hp) (scope : Scope) (C : Addr) (cl : List (Str × Addr)) (fp : List Addr) : Ok I T G c k N WF (X.blk s H scope (compEnvC scope cl C X.env) fp) :=
  ⟨ok.hN, ok.hK, ok.calm, ok.nd, ok.gd, ok.rm, fun u s' ⟨_, _, _, _, _, _, _, _, _, _, _, _, _, _, _, _, w⟩ => w.elim, ok.bl, ok.fn, ok.gl⟩

theorem wipe_get (σ : L2.St) : ∀ (own : List Nat) (j : Nat), (wipe σ own)[j]? = if j ∈ own then (σ[j]?).map (fun _ => none) else σ[j]?
  | [], j => by simp [wipe]
  | i :: is, j => by
    unfold wipe
    by_cases hj : i = j
    · subst hj
      rw [List.getElem?_set_self', wipe_get σ is i, if_pos List.mem_cons_self]
      split <;> (cases σ[i]? <;> rfl)
    · rw [List.getElem?_set_ne hj, wipe_get σ is j]
      have : (j ∈ i :: is) ↔ j ∈ is := by simp [Ne.symm hj]
      simp only [this]
theorem wipeE_get (own : List Nat) : ∀ (ρ : DEnv) (j : Nat), (wipeE own ρ)[j]? = if j ∈ own then (ρ[j]?).map (fun _ => none) else ρ[j]? := by
  unfold wipeE
  induction own with
  | nil => intro ρ j; simp
  | cons i is ih =>
    intro ρ j
    simp only [List.foldl_cons]
    rw [ih]
    by_cases hj : i = j
    · subst hj
      rw [List.getElem?_set_self', if_pos List.mem_cons_self]
      split <;> (cases ρ[i]? <;> rfl)
    · rw [List.getElem?_set_ne hj]
      have : (j ∈ i :: is) ↔ j ∈ is := by simp [Ne.symm hj]
      simp only [this]
theorem wipeE_length : (wipeE own ρ).length = ρ.length := by
  unfold wipeE
  induction own generalizing ρ with
  | nil => rfl
  | cons i is ih => simp only [List.foldl_cons]; rw [ih]; simp
theorem restore_out (own : List Nat) (ρ0 : DEnv) : ∀ (ρ : DEnv) (j : Nat), j ∉ own → (restore own ρ0 ρ)[j]? = ρ[j]? := by
  unfold restore
  induction own with
  | nil => intro ρ j _; rfl
  | cons i is ih =>
    intro ρ j h
    simp only [List.foldl_cons]
    rw [ih _ _ fun z => h (List.mem_cons_of_mem _ z), List.getElem?_set_ne fun z => h (by rw [z]; exact List.mem_cons_self)]
theorem restore_in (own : List Nat) (ρ0 : DEnv) : ∀ (ρ : DEnv) (j : Nat), j ∈ own → j < ρ.length → (restore own ρ0 ρ)[j]? = some (ρ0.getD j none) := by
  unfold restore
  induction own with
  | nil => intro ρ j h; simp at h
  | cons i is ih =>
    intro ρ j h hl
    simp only [List.foldl_cons]
    by_cases hj : j ∈ is
    · exact ih _ _ hj (by simpa using hl)
    · rcases List.mem_cons.mp h with rfl | z
      · have := restore_out is ρ0 (ρ.set j (ρ0.getD j none)) j hj
        unfold restore at this
        rw [this, List.getElem?_set_self hl]
      · exact absurd z hj
theorem restore_length (own : List Nat) (ρ0 : DEnv) : ∀ ρ : DEnv, (restore own ρ0 ρ).length = ρ.length := by
  unfold restore
  induction own with
  | nil => intro ρ; rfl
  | cons i is ih => intro ρ; simp only [List.foldl_cons]; rw [ih]; simp
/-- the own slots forgotten -/
theorem Rel.wipe (r : Rel T W ia F H σ ρ g fps) (hW : ∀ a, W1 a → W a ∨ ∃ i ∈ own, a ∈ fps i) (hg : ∀ i, i ∉ own → g'.getD i 0 = g.getD i 0) (hio : ∀ a, ia = some a → 0 ∉ own) :
    Rel T W1 ia F H (L2.wipe σ own) (wipeE own ρ) g' (fun i => if i ∈ own then [] else fps i) := by
  refine ⟨by rw [wipe_length, wipeE_length]; exact r.len, r.sub, fun j d e => ?_, fun j a m => ?_, fun j => ?_, fun i j a m1 m2 => ?_, fun a w => ?_, fun a e => ?_⟩
  · rw [wipeE_get] at e
    by_cases hj : j ∈ own
    · rw [if_pos hj] at e
      cases h : ρ[j]? with
      | none => rw [h] at e; cases e
      | some o => rw [h] at e; cases e
    · rw [if_neg hj] at e
      obtain ⟨v, e1, o⟩ := r.slot j d e
      exact ⟨v, by rw [wipe_get, if_neg hj]; exact e1, by simp only [if_neg hj, hg j hj]; exact o⟩
  · by_cases hj : j ∈ own
    · simp only [if_pos hj] at m; simp at m
    · simp only [if_neg hj] at m
      obtain ⟨h1, h2, h3⟩ := r.own j a m
      refine ⟨h1, h2, fun w => ?_⟩
      rcases hW a w with w | ⟨i, hi, w⟩
      · exact h3 w
      · exact hj (r.dj i j a w m ▸ hi)
  · by_cases hj : j ∈ own
    · simp only [if_pos hj]; exact List.nodup_nil
    · simp only [if_neg hj]; exact r.nd j
  · by_cases hi : i ∈ own
    · simp only [if_pos hi] at m1; simp at m1
    · by_cases hj : j ∈ own
      · simp only [if_pos hj] at m2; simp at m2
      · simp only [if_neg hi] at m1; simp only [if_neg hj] at m2; exact r.dj i j a m1 m2
  · rcases hW a w with w | ⟨i, hi, w⟩
    · exact r.held a w
    · exact (r.own i a w).1
  · have h0 := hio a e
    obtain ⟨h1, h2, h3, d, h4⟩ := r.iok a e
    exact ⟨by rw [wipe_get, if_neg h0]; exact h1, by simp only [if_neg h0]; exact h2, by rw [hg 0 h0]; exact h3, d, by rw [wipeE_get, if_neg h0]; exact h4⟩
/-- .. and back -/
theorem Rel.back (r1 : Rel T W ia F1 H1 σ ρ1 g1 fps1) (hw : ∀ i ∈ own, ∀ a ∈ fps1 i, W1 a) (hw2 : ∀ a, W a → W1 a) (p : ∀ i ∈ own, ∀ a ∈ fps1 i, H a = H1 a ∧ F a = none) (hF : Le F1 F)
    (r2 : Rel T W1 ia F H (L2.wipe σ own) (wipeE own ρ2) g fps2) (hlt : ∀ i ∈ own, i < g.length) (hio : ∀ a, ia = some a → 0 ∉ own) :
    Rel T W ia F H σ (restore own ρ1 ρ2) (backL g g1 own) (fun i => if i ∈ own then fps1 i else fps2 i) := by
  have l2 : ρ2.length = σ.length := by have := r2.len; rw [wipe_length, wipeE_length] at this; exact this.symm
  refine ⟨by rw [restore_length]; exact l2.symm, r2.sub, fun j d e => ?_, fun j a m => ?_, fun j => ?_, fun i j a m1 m2 => ?_, fun a w => r2.held a (hw2 a w), fun a e => ?_⟩
  · by_cases hj : j ∈ own
    · have hjl : j < ρ2.length := by
        have := (List.getElem?_eq_some_iff.mp e).1
        rw [restore_length] at this; exact this
      rw [restore_in _ _ _ _ hj hjl] at e
      have e : ρ1.getD j none = some d := Option.some.inj e
      have e' : ρ1[j]? = some (some d) := by
        rw [List.getD_eq_getElem?_getD] at e
        cases h : ρ1[j]? with
        | none => rw [h] at e; cases e
        | some o => rw [h] at e; exact congrArg some e
      obtain ⟨v, e1, o⟩ := r1.slot j d e'
      refine ⟨v, e1, ?_⟩
      have : (backL g g1 own).getD j 0 = g1.getD j 0 := by unfold backL; exact foldset_in _ _ _ _ hj (hlt j hj)
      simp only [this, if_pos hj]
      exact o.stab hF fun a m => p j hj a m
    · rw [restore_out _ _ _ _ hj] at e
      obtain ⟨v, e1, o⟩ := r2.slot j d (by rw [wipeE_get, if_neg hj]; exact e)
      rw [wipe_get, if_neg hj] at e1
      have : (backL g g1 own).getD j 0 = g.getD j 0 := by unfold backL; exact foldset_out _ _ _ _ hj
      exact ⟨v, e1, by simp only [this, if_neg hj]; exact o⟩
  · by_cases hj : j ∈ own
    · simp only [if_pos hj] at m
      obtain ⟨h1, h2, h3⟩ := r1.own j a m
      obtain ⟨k1, k2⟩ := p j hj a m
      exact ⟨by rw [k1]; exact h1, k2, h3⟩
    · simp only [if_neg hj] at m
      obtain ⟨h1, h2, h3⟩ := r2.own j a m
      exact ⟨h1, h2, fun w => h3 (hw2 a w)⟩
  · by_cases hj : j ∈ own
    · simp only [if_pos hj]; exact r1.nd j
    · simp only [if_neg hj]; exact r2.nd j
  · by_cases hi : i ∈ own
    · simp only [if_pos hi] at m1
      by_cases hj : j ∈ own
      · simp only [if_pos hj] at m2; exact r1.dj i j a m1 m2
      · simp only [if_neg hj] at m2; exact absurd (hw i hi a m1) (r2.own j a m2).2.2
    · simp only [if_neg hi] at m1
      by_cases hj : j ∈ own
      · simp only [if_pos hj] at m2; exact absurd (hw j hj a m2) (r2.own i a m1).2.2
      · simp only [if_neg hj] at m2; exact r2.dj i j a m1 m2
  · have h0 := hio a e
    obtain ⟨h1, h2, h3, d, h4⟩ := r2.iok a e
    rw [wipe_get, if_neg h0] at h1
    rw [wipeE_get, if_neg h0] at h4
    have : (backL g g1 own).getD 0 0 = g.getD 0 0 := by unfold backL; exact foldset_out _ _ _ _ h0
    exact ⟨h1, by simp only [if_neg h0]; exact h2, by rw [this]; exact h3, d, by rw [restore_out _ _ _ _ h0]; exact h4⟩
/-- an object that is held turns -/
theorem Rel.updW (r : Rel T W ia F H σ ρ g fps) {a : Addr} {o : HO} (hw : W a) (hF : F a = none) : Rel T W ia F (upd H a o) σ ρ g fps := by
  have ne : ∀ b, b ≠ a → upd H a o b = H b := fun b h => upd_ne h
  have nb : ∀ i b, b ∈ fps i → b ≠ a := fun i b m z => (r.own i b m).2.2 (z ▸ hw)
  refine ⟨r.len, fun b u e => ?_, fun i d e => ?_, fun i b m => ?_, r.nd, r.dj, fun b w => ?_, r.iok⟩
  · rw [ne b fun z => by rw [z, hF] at e; cases e]
    exact r.sub b u e
  · obtain ⟨v, e1, ro⟩ := r.slot i d e
    exact ⟨v, e1, ro.stab (Le.refl _) fun b m => ⟨ne b (nb i b m), (r.own i b m).2.1⟩⟩
  · obtain ⟨h1, h2, h3⟩ := r.own i b m
    exact ⟨by rw [ne b (nb i b m)]; exact h1, h2, h3⟩
  · by_cases h : b = a
    · subst h; rw [upd_same]; simp
    · rw [ne b h]; exact r.held b w
theorem Pres.upd {a : Addr} {o : HO} (hw : ¬ W a) : Pres W F H F (upd H a o) := by
  refine ⟨Le.refl _, fun b w => upd_ne fun z => hw (z ▸ w), fun _ _ h => h, fun b h => ?_⟩
  by_cases z : b = a
  · subst z; rw [upd_same]; simp
  · rw [upd_ne z]; exact h
theorem ROs.append : ∀ {m : Nat} {vs ws : List V} {ds es : List D} {fp fq : List Addr}, ROs T F H m vs ds fp → ROs T F H m ws es fq → ROs T F H m (vs ++ ws) (ds ++ es) (fp ++ fq)
  | _, _, _, _, _, _, _, .nil, s => s
  | _, _, _, _, _, _, _, .cons r t, s => by
    rw [List.append_assoc]
    exact .cons r (ROs.append t s)

theorem compLoop_cons {set : D → DEnv → R DEnv} {test : DEnv → R (Bool × DEnv)} {elt : DEnv → R (D × DEnv)} {d : D} {ds xs : List D} {ρ ρe : DEnv} (h : compLoop set test elt (d :: ds) ρ = .ok (xs, ρe)) :
    ∃ ρ1 b ρ2, set d ρ = .ok ρ1 ∧ test ρ1 = .ok (b, ρ2) ∧ ((b = true ∧ ∃ x ρ3 ys, elt ρ2 = .ok (x, ρ3) ∧ compLoop set test elt ds ρ3 = .ok (ys, ρe) ∧ xs = x :: ys) ∨ (b = false ∧ compLoop set test elt ds ρ2 = .ok (xs, ρe))) := by
  simp only [compLoop] at h
  obtain ⟨ρ1, h1, h⟩ := R.bind_eq_ok h
  obtain ⟨⟨b, ρ2⟩, h2, h⟩ := R.bind_eq_ok h
  refine ⟨ρ1, b, ρ2, h1, h2, ?_⟩
  cases b with
  | true =>
    have h : ((elt ρ2).bind fun (x, ρ3) => (compLoop set test elt ds ρ3).bind fun (xs, ρ4) => R.ok (x :: xs, ρ4)) = .ok (xs, ρe) := h
    obtain ⟨⟨x, ρ3⟩, h3, h⟩ := R.bind_eq_ok h
    obtain ⟨⟨ys, ρ4⟩, h4, h⟩ := R.bind_eq_ok h
    cases h
    exact .inl ⟨rfl, x, ρ3, ys, h3, h4, rfl⟩
  | false => exact .inr ⟨rfl, h⟩
theorem compLoop_nil {set : D → DEnv → R DEnv} {test : DEnv → R (Bool × DEnv)} {elt : DEnv → R (D × DEnv)} {xs : List D} {ρ ρe : DEnv} (h : compLoop set test elt [] ρ = .ok (xs, ρe)) : xs = [] ∧ ρe = ρ := by
  simp only [compLoop] at h
  cases h
  exact ⟨rfl, rfl⟩

theorem rd_comp {elt : E} {tg : Tg} {it : It} {ifs : Es} {h3 h3' h4 : Lv} {m : Nat} (hm : m ≤ l) (hml : m + 1 = min 9 (l + 1)) (c0 : LeC io h3 (zeroL g1 own)) (c1 : LeC io h3' h3) (c2 : LeC io h4 h3') (hh : leL h3 h4 = true) (hsl : tg.slots = own)
    (hown : ∀ i ∈ own, i < g1.length ∧ (io = true → i ≠ 0)) (h : tI T G c io Wx (.comp elt own tg it ifs) g (backL h3 g1 own) (min 9 (l + 1)) σ H Q) :
    tLc (tIt T G c io Wx it g g1) (gTg T.K tg) (tIfs T G c io WF ifs h3 h3') (tI T G c io WF elt h3' h4 l) own σ H Q := by
  obtain ⟨W, ia, F, ρ, fps, hi, r, q⟩ := h
  have e1 : ev G c (.comp elt own tg it ifs) ρ = (evIt G c it ρ).bind fun (ds, ρ1) =>
    if ds.length ≤ SZ then (noex (compLoop (fun d r => tg.set d (wipeE own r)) (fun r => evIfs G c ifs r) (fun r => ev G c elt r) ds ρ1)).bind fun (xs, ρ2) => .ok (.list xs, restore own ρ1 ρ2) else .bad := by simp only [ev]
  rw [e1] at q
  refine ⟨W, ia, F, ρ, fps, hi, r, ?_⟩
  cases hs : evIt G c it ρ with
  | bad => rw [hs] at q; exact q
  | ex k v => rw [hs] at q; exact q
  | ok z =>
    obtain ⟨ds, ρ1⟩ := z
    rw [hs] at q
    simp only [R.bind_ok] at q
    intro J F1 H1 fps1 r1 p1 wk D hD
    by_cases hsz : ds.length ≤ SZ
    · rw [if_pos hsz] at q
      cases hcl : compLoop (fun d r => tg.set d (wipeE own r)) (fun r => evIfs G c ifs r) (fun r => ev G c elt r) ds ρ1 with
      | bad => rw [hcl] at q; exact False.elim q
      | ex k v => rw [hcl] at q; exact False.elim q
      | ok z =>
        obtain ⟨xs, ρ2⟩ := z
        rw [hcl] at q
        have q : EPost T W ia (backL h3 g1 own) (min 9 (l + 1)) F H Wx σ Q (.ok (.list xs, restore own ρ1 ρ2)) := q
        -- levels
        have lz : (zeroL g1 own).length = g1.length := by unfold zeroL; exact foldset_len own (fun _ => 0) g1
        have l3 : h3.length = g1.length := c0.len.trans lz
        have h3own : ∀ i ∈ own, i < h3.length ∧ h3.getD i 0 = 0 := fun i m => by
          refine ⟨by rw [l3]; exact (hown i m).1, ?_⟩
          have := c0.le i
          have e : (zeroL g1 own).getD i 0 = 0 := by unfold zeroL; exact foldset_in own (fun _ => 0) g1 i m (hown i m).1
          omega
        have h34 : ∀ i, h4.getD i 0 = h3.getD i 0 := fun i => Nat.le_antisymm (Nat.le_trans (c2.le i) (c1.le i)) ((leL_of hh).2 i)
        have h33 : ∀ i, h3'.getD i 0 = h3.getD i 0 := fun i => Nat.le_antisymm (c1.le i) (by rw [← h34 i]; exact c2.le i)
        have hio : ∀ a, ia = some a → 0 ∉ own := fun a e m => (hown 0 m).2 (by rw [← hi, e]; rfl) rfl
        have hslot : ∀ i ∈ tg.slots, i < h3.length ∧ h3.getD i 0 = 0 ∧ (ia = none ∨ i ≠ 0) := fun i m => by
          rw [hsl] at m
          refine ⟨(h3own i m).1, (h3own i m).2, ?_⟩
          cases e : ia with
          | none => exact .inl rfl
          | some a => exact .inr fun z => hio a e (z ▸ m)
        -- the start
        let W1 : Addr → Prop := fun a => W a ∨ ∃ i ∈ own, a ∈ fps1 i
        have rw1 : Rel T W1 ia F1 H1 (L2.wipe σ own) (wipeE own ρ1) (zeroL g1 own) (fun i => if i ∈ own then [] else fps1 i) :=
          r1.wipe (fun a w => w) (fun i m => by unfold zeroL; exact foldset_out own (fun _ => 0) g1 i m) hio
        obtain ⟨F2, fps2, r2, p2, s2⟩ := rw1.weakAll c0 hi
        have r2e := (r2.ext (le_upd (o := .lst []) hD)).hold (new_cons (o := .lst []) r2 New.nil hD)
        let Inv : Nat → Hp → Prop := fun i H => ∃ (F : Hp) (ρi : DEnv) (fps : Nat → List Addr) (accV : List V) (accD : List Fh.D) (fpA : List Addr) (rest : List Fh.D),
          compLoop (fun d r => tg.set d (wipeE own r)) (fun r => evIfs G c ifs r) (fun r => ev G c elt r) (ds.drop i) ρi = .ok (rest, ρ2) ∧ accD ++ rest = xs ∧ accD.length ≤ i ∧
          Rel T (addW W1 (D :: fpA)) ia F H (L2.wipe σ own) (wipeE own ρi) h3 fps ∧ H D = some (.lst accV) ∧ ROs T F H m accV accD fpA ∧ fpA.Nodup ∧ D ∉ fpA ∧ (∀ a ∈ D :: fpA, ¬ W1 a ∧ F a = none) ∧ Pres W1 F1 H1 F H
        refine ⟨fun i n H => n = ds.length - i ∧ i ≤ ds.length ∧ Inv i H, ⟨ds.length, by simp, Nat.zero_le _, ?_⟩, ?_⟩
        · refine ⟨F2, ρ1, fps2, [], [], [], xs, by simpa using hcl, rfl, Nat.zero_le _, r2e, upd_same, .nil, List.nodup_nil, by simp, fun a m => ?_, p2.ext (le_upd hD) rw1.held⟩
          obtain rfl : a = D := by simpa using m
          exact ⟨fun w => rw1.held a w hD, none_of_le r2.sub hD⟩
        · rintro i n H' ⟨rfl, hile, Fi, ρi, fpsi, accV, accD, fpA, rest, hcomp, hxs, hlen, ri, hDi, hacc, hnd, hDn, hnew, pi⟩
          have hF1 : Le F1 H' := pi.f.trans ri.sub
          by_cases hlt : i < ds.length
          · refine .inr ⟨wk.go i H' hlt hF1, Inv (i + 1), fun H'' p' => ⟨ds.length - (i + 1), by omega, rfl, hlt, p'⟩, fun x Hx y => ?_⟩
            obtain ⟨d, kx, fpx, hd, hle, hro, hndx, hnewx⟩ := wk.yld i H' x Hx hlt hF1 y
            have hdrop : ds.drop i = d :: ds.drop (i + 1) := by
              obtain ⟨z1, z2⟩ := List.getElem?_eq_some_iff.mp hd
              rw [List.drop_eq_getElem_cons z1, z2]
            rw [hdrop] at hcomp
            obtain ⟨ρs, b, ρt, hset, htest, hbr⟩ := compLoop_cons hcomp
            have hXn : ∀ a ∈ fpx, ∀ j, a ∉ fpsi j := fun a m j z => (ri.own j a z).1 (hnewx a m).1
            have rX := (ri.ext hle).frz hXn
            have leFx : Le Fi (addF Fi Hx fpx) := addF_le (ri.sub.trans hle)
            have rd : RD T (addF Fi Hx fpx) x d := (hro Fi pi.f ri.sub).toRD leFx fun a m => addF_in m
            obtain ⟨σ', fps', k1, k2, k3, k4⟩ := tg_put rX rd hset hslot
            have hwσ : L2.wipe σ' own = L2.wipe σ own := by
              apply List.ext_getElem?
              intro j
              rw [wipe_get, wipe_get]
              by_cases hj : j ∈ own
              · rw [if_pos hj, if_pos hj]
                rw [wipe_length] at k3
                by_cases hjl : j < σ.length
                · rw [List.getElem?_eq_getElem hjl, List.getElem?_eq_getElem (by rw [k3]; exact hjl)]; rfl
                · rw [List.getElem?_eq_none (by omega), List.getElem?_eq_none (by omega)]
              · rw [if_neg hj, if_neg hj, k4 j (by rw [hsl]; exact hj), wipe_get, if_neg hj]
            have pX : Pres W1 Fi H' (addF Fi Hx fpx) Hx :=
              (Pres.refl.ext hle fun a w => ri.held a (.inl w)).trans (Pres.frz (ri.sub.trans hle) fun a m w => ri.held a (.inl w) (hnewx a m).1)
            have hDx : Hx D = some (.lst accV) := hle _ _ hDi
            have hold : ∀ a ∈ D :: fpA, Hx a = H' a ∧ addF Fi Hx fpx a = none := fun a m => by
              have hn := ri.held a (.inr m)
              refine ⟨?_, ?_⟩
              · cases e : H' a with
                | none => exact absurd e hn
                | some o => exact hle a o e
              · rw [addF_out fun z => hn (hnewx a z).1]; exact (hnew a m).2
            refine k1 _ ⟨hwσ, _, ia, _, ρs, fps', hi, k2, ?_⟩
            rw [htest]
            intro F3 H3 fps3 r3 p3
            have hold3 : ∀ a ∈ D :: fpA, H3 a = H' a ∧ F3 a = none := fun a m => ⟨(p3.h a (.inr m)).trans (hold a m).1, p3.n a (.inr m) (hold a m).2⟩
            have p13 : Pres W1 F1 H1 F3 H3 := (pi.trans pX).trans (p3.mono fun a w => .inl w)
            rcases hbr with ⟨rfl, dx, ρu, rest', helt, hrest, rfl⟩ | ⟨rfl, hrest⟩
            · rw [if_pos rfl]
              refine ⟨_, ia, F3, ρt, fps3, hi, r3, EPost.weak hi hm (LeC.refl _) ?_⟩
              rw [helt]
              intro y F4 H4 fps4 fpy r4 p4 o4 n4
              have hold4 : ∀ a ∈ D :: fpA, H4 a = H' a ∧ F4 a = none := fun a m => ⟨(p4.h a (.inr m)).trans (hold3 a m).1, p4.n a (.inr m) (hold3 a m).2⟩
              have hD4 : H4 D = some (.lst accV) := (hold4 D List.mem_cons_self).1.trans hDi
              refine ⟨accV, hD4, ?_, ?_⟩
              · rw [hacc.length]
                have : sizeLine = SZ := sizeLine_eq
                omega
              · have hDw : ¬ W1 D := (hnew D List.mem_cons_self).1
                have rn := (r4.hold n4).updW (o := .lst (accV ++ [y])) (a := D) (.inl (.inr List.mem_cons_self)) (hold4 D List.mem_cons_self).2
                have rw4 := rn.wipe (own := own) (g' := h3) (W1 := addW W1 (D :: (fpA ++ fpy))) (fun a w => .inl (by
                  rcases w with w | w
                  · exact .inl (.inl w)
                  · rcases List.mem_cons.mp w with rfl | w
                    · exact .inl (.inr List.mem_cons_self)
                    · rcases List.mem_append.mp w with w | w
                      · exact .inl (.inr (List.mem_cons_of_mem _ w))
                      · exact .inr w)) (fun j _ => (h34 j).symm) hio
                rw [hwσ] at rw4
                have hyD : ∀ a ∈ fpy, a ≠ D := fun a m z => (n4.ok a m).1 (.inr (by rw [z]; exact List.mem_cons_self))
                refine ⟨F4, ρu, _, accV ++ [y], accD ++ [dx], fpA ++ fpy, rest', hrest, by rw [← hxs]; simp, by simp; omega, rw4, upd_same, ?_, ?_, ?_, ?_, ?_⟩
                · have a1 := hacc.stab (F' := F4) (H' := upd H4 D (.lst (accV ++ [y]))) ((leFx.trans p3.f).trans p4.f) fun a ma => ⟨(upd_ne fun z => hDn (by rw [← z]; exact ma)).trans (hold4 a (List.mem_cons_of_mem _ ma)).1, (hold4 a (List.mem_cons_of_mem _ ma)).2⟩
                  have a2 := o4.stab (F' := F4) (H' := upd H4 D (.lst (accV ++ [y]))) (Le.refl _) fun a m => ⟨upd_ne (hyD a m), (n4.ok a m).2.2.2⟩
                  have := a1.append (.cons a2 .nil)
                  simpa using this
                · exact List.nodup_append.mpr ⟨hnd, n4.nd, fun a m b m' e => (n4.ok b m').1 (.inr (by rw [← e]; exact List.mem_cons_of_mem _ m))⟩
                · intro z
                  rcases List.mem_append.mp z with z | z
                  · exact hDn z
                  · exact hyD D z rfl
                · intro a m
                  have : a ∈ D :: fpA ∨ a ∈ fpy := by
                    rcases List.mem_cons.mp m with rfl | m
                    · exact .inl List.mem_cons_self
                    · rcases List.mem_append.mp m with m | m
                      · exact .inl (List.mem_cons_of_mem _ m)
                      · exact .inr m
                  rcases this with m | m
                  · exact ⟨(hnew a m).1, (hold4 a m).2⟩
                  · exact ⟨fun w => (n4.ok a m).1 (.inl w), (n4.ok a m).2.2.2⟩
                · exact (p13.trans (p4.mono fun a w => .inl w)).trans (Pres.upd hDw)
            · rw [if_neg (by decide)]
              have rw3 := r3.wipe (own := own) (g' := h3) (W1 := addW W1 (D :: fpA)) (fun a w => .inl w) (fun j _ => (h33 j).symm) hio
              rw [hwσ] at rw3
              refine ⟨F3, ρt, _, accV, accD, fpA, rest, hrest, hxs, by omega, rw3, (hold3 D List.mem_cons_self).1.trans hDi, ?_, hnd, hDn, fun a m => ⟨(hnew a m).1, (hold3 a m).2⟩, p13⟩
              exact hacc.stab (leFx.trans p3.f) fun a m => hold3 a (List.mem_cons_of_mem _ m)
          · have hi2 : i = ds.length := by omega
            subst hi2
            rw [List.drop_length] at hcomp
            obtain ⟨rfl, rfl⟩ := compLoop_nil hcomp
            rw [List.append_nil] at hxs
            subst hxs
            refine .inl ⟨wk.stop H' hF1, ?_⟩
            have rb := r1.back (own := own) (W1 := addW W1 (D :: fpA)) (fun i m a ha => .inl (.inr ⟨i, m, ha⟩)) (fun a w => .inl (.inl w)) (fun i m a ha => ⟨pi.h a (.inr ⟨i, m, ha⟩), pi.n a (.inr ⟨i, m, ha⟩) (r1.own i a ha).2.1⟩) pi.f ri (fun i m => (h3own i m).1) hio
            refine q (.ref D) Fi H' _ (D :: fpA) rb (p1.trans (pi.mono fun a w => .inl w)) ?_ ⟨List.nodup_cons.mpr ⟨hDn, hnd⟩, fun a m => ⟨fun w => (hnew a m).1 (.inl w), fun j z => ?_, ri.held a (.inr m), (hnew a m).2⟩⟩
            · rw [← hml]
              exact .list hDi (hnew D List.mem_cons_self).2 hacc
            · by_cases hj : j ∈ own
              · simp only [if_pos hj] at z
                exact (hnew a m).1 (.inr ⟨j, hj, z⟩)
              · simp only [if_neg hj] at z
                exact (ri.own j a z).2.2 (.inr m)
    · rw [if_neg hsz] at q; exact False.elim q

theorem comp_both {elt : E} {tg : Tg} {it : It} {ifs : Es} (i1 : ME I T G c k N io elt) (i2 : MIt I T G c k N io it) (i3 : MEs I T G c k N io ifs) {X : Cx} {sc : Scope} {Wx : WX} {ex : Expr} {g g' : Lv} {l : Nat} (ok : Ok I T G c k N Wx X) (hsc : X.env.scope = sc)
    (h : chkE I N io sc (.comp elt own tg it ifs) ex g = some (l, g')) : (PE X ex (tI T G c io Wx (.comp elt own tg it ifs) g g' l) ∧ plainT ex = true) ∧
      ∀ {i : Nat} {y : Str} {py spos : Pos}, X.N[i]? = some y → X.env.scope.names.lookup y = some .local → swapsWith ex (some (.Name y py)) spos.line X.env = pure true → PS X (.Assign [.Name y py] ex spos) (tAsg (tI T G c io Wx (.comp elt own tg it ifs) g g' l) (gName i)) := by
  simp only [chkE] at h
  split at h
  · rename_i eelt etg eit eifs scope pos
    split at h
    · rename_i hc
      simp only [Bool.and_eq_true, decide_eq_true_eq, List.all_eq_true] at hc
      obtain ⟨⟨⟨⟨hb, ht⟩, hsl⟩, hnd⟩, ho⟩ := hc
      obtain ⟨g1, h1, h⟩ := bind_some h
      have h1 : chkIt I N io sc it eit (isTup etg) g = some g1 := by cases etg <;> exact h1
      obtain ⟨k1, h2, h⟩ := bind_some h
      obtain ⟨k2, h3, h⟩ := bind_some h
      obtain ⟨k3, h4, h⟩ := bind_some h
      obtain ⟨⟨l4, k4⟩, h5, h⟩ := bind_some h
      split at h
      · rename_i hle
        cases h
        have st : ∀ {h h' : Lv}, (((chkIfs I N io (relS scope sc) ifs eifs h).bind fun h1 => chkE I N io (relS scope sc) elt eelt h1).bind fun x => some (minL h x.2)) = some h' → LeC io h' h := by
          intro h h' e
          obtain ⟨⟨la, ha⟩, e1, e2⟩ := bind_some e
          obtain ⟨hb, e3, e4⟩ := bind_some e1
          cases e2
          exact (minL_le io ((le_all I N io elt e4).trans ((les_all I N io ifs).2.2.2 e3))).2
        have c0 : LeC io k3 (zeroL g1 own) := (st h4).trans ((st h3).trans (st h2))
        obtain ⟨h3', e6, e7⟩ := bind_some h5
        have c1 := (les_all I N io ifs).2.2.2 e6
        have c2 := le_all I N io elt e7
        have lg : g1.length = g.length := (lit_all I N io it h1).len
        have hown : ∀ i ∈ own, i < g1.length ∧ (io = true → i ≠ 0) := fun i m => by
          have := ho i m
          obtain ⟨⟨z1, z2⟩, _⟩ := this
          exact ⟨by rw [lg]; exact z1, ne_io io z2⟩
        have hloc : ∀ i ∈ own, ∀ x, N[i]? = some x → scope.names.lookup x = some .local ∨ scope.names.lookup x = some .cell := fun i m x e => by
          have := (ho i m).2
          rw [e] at this
          unfold looksK at this
          simpa using this
        have ownEq : (ownNames N own).map (·.2) = own := by
          unfold ownNames
          rw [List.map_map]
          exact List.map_id _
        have sc2 : ∀ (s : Shared) (H : Hp) (C : Addr) (cl : List (Str × Addr)) (fp : List Addr), (X.blk s H scope (compEnvC scope cl C X.env) fp).env.scope = relS scope sc := fun s H C cl fp => by rw [← hsc]; rfl
        obtain ⟨pi, hfold⟩ := i2 (tg := etg) ok hsc h1
        have hb' := blkOk_by (N := X.N) (sc := X.env.scope) (scope := scope) (own := ownNames N own) (by rw [ok.hN, hsc]; exact hb)
        have hg : ∀ (s : Shared) (H : Hp) (C : Addr) (cl : List (Str × Addr)) (fp : List Addr), PG (X.blk s H scope (compEnvC scope cl C X.env) fp) etg (gTg X.K tg) := fun s H C cl fp => by
          refine pg_tg (X := X.blk s H scope (compEnvC scope cl C X.env) fp) ok.hN ok.nd ok.calm ht fun i m x e => ?_
          rw [hsl] at m
          have hl := hloc i m x e
          have e0 := sc2 s H C cl fp
          rw [e0]
          rcases hl with hl | hl
          · exact ⟨.inl (lookup_relS_keep (by decide) hl), .inr (lookup_relS_keep (by decide) hl)⟩
          · refine ⟨.inr (lookup_relS_keep (by decide) hl), .inl ?_⟩
            show (scope.names.lookup x == some .cell) = true
            rw [hl]; rfl
        have ht' := fun (s : Shared) (H : Hp) (C : Addr) (cl : List (Str × Addr)) (fp : List Addr) => (i3 (ok.blk s H scope C cl fp) (sc2 s H C cl fp)).2.2.2.1 _ _ _ e6
        have he' := fun (s : Shared) (H : Hp) (C : Addr) (cl : List (Str × Addr)) (fp : List Addr) => (i1 (ok.blk s H scope C cl fp) (sc2 s H C cl fp) e7).1
        have rd : ∀ σ H Q, tI T G c io Wx (.comp elt own tg it ifs) g (backL k3 g1 own) (min 9 (l4 + 1)) σ H Q → tLc (tIt T G c io Wx it g g1) (gTg X.K tg) (tIfs T G c io WF ifs k3 h3') (tI T G c io WF elt h3' k4 l4) ((ownNames N own).map (·.2)) σ H Q := fun σ H Q q => by
          rw [ownEq, ok.hK]
          exact rd_comp (m := min 9 (l4 + 1) - 1) (by omega) (by omega) c0 c1 c2 hle hsl hown q
        refine ⟨⟨PE.of (pe_lc ok.calm ok.nd pi hb' hg ht' he' hfold) rd, rfl⟩, fun hy hl hsw => PS.of (ps_setLc ok.calm ok.nd hy hl hsw pi hb' hg ht' he' hfold) fun D σ H q => rd σ H _ q⟩
      · cases h
    · cases h
  · cases h
theorem m_comp {elt : E} {tg : Tg} {it : It} {ifs : Es} (i1 : ME I T G c k N io elt) (i2 : MIt I T G c k N io it) (i3 : MEs I T G c k N io ifs) : ME I T G c k N io (.comp elt own tg it ifs) := by
  intro X sc Wx ex g g' l ok hsc h
  obtain ⟨⟨pe, hp⟩, _⟩ := comp_both i1 i2 i3 ok hsc h
  exact ⟨pe, tT_of ok.hK pe hp⟩

theorem me_all (I : Info) (T : Tb) (G : Nat → R D) (c : Callee) (k : Nat) (N : List Str) (io : Bool) (e : E) : ME I T G c k N io e :=
  E.rec (motive_1 := fun e => ∀ io, ME I T G c k N io e) (motive_2 := fun es => ∀ io, MEs I T G c k N io es) (motive_3 := fun it => ∀ io, MIt I T G c k N io it)
    (fun d io => m_cst) (fun i io => m_var) (fun g io => m_glo) (fun p as ih io => m_prim (ih io)) (fun b as ih io => m_bop (ih io)) (fun t a b i1 i2 i3 io => m_ife (i1 io) (i2 io) (i3 io)) (fun as ih io => m_lst (ih io)) (fun as ih io => m_tup (ih io)) (fun io => m_dct)
    (fun o1 o2 a b d i1 i2 i3 io => m_chain (i1 io) (i2 io) (i3 io)) (fun f as ih io => m_call (ih io)) (fun f i as ih io => m_callio (ih io)) (fun f i j io => m_callq) (fun f as ih io => m_callz (ih false)) (fun elt own tg it ifs i1 i2 i3 io => m_comp (i1 io) (i2 io) (i3 io))
    (fun io => mes_nil) (fun e es i1 i2 io => mes_cons (i1 io) (i2 io)) (fun e i1 io => it_over (i1 io)) (fun as i1 io => it_range (i1 io)) (fun as i1 io => it_enum (i1 io)) (fun as i1 io => it_zip (i1 io)) (fun as i1 io => it_zips (i1 io)) e io
theorem mes_all (I : Info) (T : Tb) (G : Nat → R D) (c : Callee) (k : Nat) (N : List Str) (io : Bool) : ∀ es, MEs I T G c k N io es
  | .nil => mes_nil
  | .cons e es => mes_cons (me_all I T G c k N io e) (mes_all I T G c k N io es)
theorem mit_all (I : Info) (T : Tb) (G : Nat → R D) (c : Callee) (k : Nat) (N : List Str) (io : Bool) : ∀ it, MIt I T G c k N io it
  | .over e => it_over (me_all I T G c k N io e)
  | .range as => it_range (mes_all I T G c k N io as)
  | .enum as => it_enum (mes_all I T G c k N io as)
  | .zip as => it_zip (mes_all I T G c k N io as)
  | .zips as => it_zips (mes_all I T G c k N io as)
end
end Fh
end
section
set_option maxRecDepth 100000
set_option maxHeartbeats 2000000
/-! The checker of statements. -/
namespace Fh
open PySem PySem.Spec PyProof.Rows L2

/-- levels behind a statement: where it goes on, where it breaks, where it starts the next turn -/
structure LR where
  nx : Lv
  bk : Lv
  ct : Lv
def topL (g : Lv) : Lv := List.replicate g.length 9
def lowC (io : Bool) (a b : Lv) : Bool := leL a b && (!io || decide (b.getD 0 0 = 0) || decide (1 ≤ a.getD 0 0))
def meet (io : Bool) (a b : Lv) : Option Lv := if lowC io (minL a b) a && lowC io (minL a b) b then some (minL a b) else none
def meetR (io : Bool) (a b : LR) : Option LR := (meet io a.nx b.nx).bind fun n => (meet io a.bk b.bk).bind fun k => (meet io a.ct b.ct).bind fun t => some ⟨n, k, t⟩
theorem lowC_of {io : Bool} {a b : Lv} (h : lowC io a b = true) : LeC io a b := by
  unfold lowC at h
  simp only [Bool.and_eq_true, Bool.or_eq_true, Bool.not_eq_true', decide_eq_true_eq] at h
  obtain ⟨h1, h2⟩ := h
  obtain ⟨h3, h4⟩ := leL_of h1
  refine ⟨h3, h4, fun e z => ?_⟩
  rcases h2 with (h2 | h2) | h2
  · rw [h2] at e; cases e
  · omega
  · exact h2
theorem meet_of {io : Bool} {a b m : Lv} (h : meet io a b = some m) : LeC io m a ∧ LeC io m b := by
  unfold meet at h
  split at h
  · rename_i h1
    cases h
    simp only [Bool.and_eq_true] at h1
    exact ⟨lowC_of h1.1, lowC_of h1.2⟩
  · cases h
structure LeR (io : Bool) (a b : LR) : Prop where
  nx : LeC io a.nx b.nx
  bk : LeC io a.bk b.bk
  ct : LeC io a.ct b.ct
theorem meetR_of {io : Bool} {a b m : LR} (h : meetR io a b = some m) : LeR io m a ∧ LeR io m b := by
  unfold meetR at h
  obtain ⟨n, h1, h⟩ := bind_some h
  obtain ⟨k, h2, h⟩ := bind_some h
  obtain ⟨t, h3, h⟩ := bind_some h
  cases h
  exact ⟨⟨(meet_of h1).1, (meet_of h2).1, (meet_of h3).1⟩, ⟨(meet_of h1).2, (meet_of h2).2, (meet_of h3).2⟩⟩

def isComp : Expr → Bool
  | .ListComp _ _ _ _ => true
  | .SetComp _ _ _ _ => true
  | .DictComp _ _ _ _ _ => true
  | _ => false
def isCompE : E → Bool
  | .comp _ _ _ _ _ => true
  | _ => false
def isTupE : Expr → Bool
  | .Tuple _ _ _ => true
  | _ => false
/-- a slot that a statement may set -/
def setOk (N : List Str) (io : Bool) (sc : Scope) (g : Lv) (i : Nat) : Bool := (match N[i]? with | some x => looksK sc x .local || looksK sc x .cell | none => false) && decide (i < g.length) && !(io && decide (i = 0))
/-- the order in which a tuple of names is stored -/
def swapOf (sc : Scope) (ts vs : List Expr) : Option (Option (List Str)) :=
  if !(ts.length == 2 || ts.length == 3) || vs.length != ts.length then some none
  else if vs.any fun | .Starred .. => true | _ => false then some none
  else
    let line := (ts.head?.map (·.pos.line)).getD 0
    let names := ts.filterMap fun
      | .Name id pos => if sc.names.lookup id == some .local && pos.line == line then some id else none
      | _ => none
    if names.length != ts.length || names.eraseDups.length != names.length then some none
    else if vs.all (foldedForSure 8) then some none
    else if vs.all (constantsAlone 8) then none
    else some (some names)
/-- the levels of several slots -/
def setsL (is ls : List Nat) (g : Lv) : Lv := (is.zip ls).foldl (fun r p => r.set p.1 p.2) g

section
variable (I : Info) (N : List Str) (io : Bool) (lr : Nat)
def chkEl (sc : Scope) : Es → List Expr → Lv → Option (List Nat × Lv)
  | .nil, [], g => some ([], g)
  | .cons e es, ex :: exs, g => if noStar ex then (chkE I N io sc e ex g).bind fun (l, g1) => (chkEl sc es exs g1).bind fun (ls, g2) => some (l :: ls, g2) else none
  | _, _, _ => none
/-- the expression of a way into a thing -/
def pathE (sc : Scope) (x : Str) (rp : List Int) (o : Expr) : Bool := match rp, o with
  | [], .Name y _ => decide (y = x)
  | i :: rp, .Subscript o' (.Constant (.int j) _ _) _ => decide (i = j) && pathE sc x rp o'
  | _, _ => false
mutual
def chkS (sc : Scope) : S → Stmt → Lv → Option LR
  | .asg i e, st, g => match st with
    | .Assign [.Name x _] ex _ => if decide (N[i]? = some x) && setOk N io sc g i && (isCompE e || !isComp ex) then (chkE I N io sc e ex g).bind fun (l, g1) => some ⟨g1.set i l, topL g, topL g⟩ else none
    | _ => none
  | .asgT is e, st, g => match st with
    | .Assign [.Tuple ts k p] ex _ => if chkTg N (.tup is) (.Tuple ts k p) && (is.all fun i => setOk N io sc g i) && !isTupE ex then (chkE I N io sc e ex g).bind fun (_, g1) => some ⟨zeroL g1 is, topL g, topL g⟩ else none
    | _ => none
  | .par is es, st, g => match st with
    | .Assign [.Tuple ts k p] (.Tuple exs _ _) _ => if chkTg N (.tup is) (.Tuple ts k p) && (is.all fun i => setOk N io sc g i) && decide is.Nodup && decide (exs.length = is.length) && (swapOf sc ts exs).isSome && decide (exs.length ≤ 100) then
        (chkEl I N io sc es exs g).bind fun (ls, g1) => some ⟨setsL is ls g1, topL g, topL g⟩ else none
    | _ => none
  | .setix i ix e, st, g => match st with
    | .Assign [.Subscript (.Name x _) exi _] ex _ => if slotOk N sc g i x && noSlice exi then (chkE I N io sc e ex g).bind fun (l, g1) => (chkE I N io sc ix exi g1).bind fun (_, g2) => if 1 ≤ g2.getD i 0 then some ⟨g2.set i (min (g2.getD i 0) (l + 1)), topL g, topL g⟩ else none else none
    | _ => none
  | .app i e, st, g => match st with
    | .Expr (.Call (.Attribute (.Name x _) m apos) [ex] [] cpos) _ => if decide (m = ("append" : Str)) && (apos.endLine == cpos.line) && slotOk N sc g i x && noStar ex then (chkE I N io sc e ex g).bind fun (l, g1) => if 1 ≤ g1.getD i 0 then some ⟨g1.set i (min (g1.getD i 0) (l + 1)), topL g, topL g⟩ else none else none
    | _ => none
  | .ins i ix e, st, g => match st with
    | .Expr (.Call (.Attribute (.Name x _) m apos) [exi, ex] [] cpos) _ => if decide (m = ("insert" : Str)) && (apos.endLine == cpos.line) && slotOk N sc g i x && noStar exi && noStar ex then (chkE I N io sc ix exi g).bind fun (_, g1) => (chkE I N io sc e ex g1).bind fun (l, g2) => if 1 ≤ g2.getD i 0 then some ⟨g2.set i (min (g2.getD i 0) (l + 1)), topL g, topL g⟩ else none else none
    | _ => none
  | .spoil i p e, st, g => match st with
    | .Expr (.Call (.Attribute o m apos) [ex] [] cpos) _ => (match e, ex with
      | .cst d, .Constant c _ _ => if constP d c && decide (m = ("append" : Str)) && (apos.endLine == cpos.line) && (match N[i]? with | some x => slotOk N sc g i x && pathE sc x p.reverse o | none => false) && decide (p.length + 1 ≤ g.getD i 0) && !(io && decide (i = 0)) && !p.isEmpty then some ⟨g.set i 0, topL g, topL g⟩ else none
      | _, _ => none)
    | _ => none
  | .exp e, st, g => match st with
    | .Expr ex _ => if isComp ex then none else (chkE I N io sc e ex g).bind fun (_, g1) => some ⟨g1, topL g, topL g⟩
    | _ => none
  | .ite t a b, st, g => match st with
    | .If et ba bb _ => (chkE I N io sc t et g).bind fun (_, g1) => (chkSs sc a ba g1).bind fun ra => (chkSs sc b bb g1).bind fun rb => meetR io ra rb
    | _ => none
  | .whl t b, st, g => match st with
    | .While et bb [] _ =>
      let turn := fun (h : Lv) => (chkE I N io sc t et h).bind fun (_, h1) => (chkSs sc b bb h1).bind fun r => some (h1, r)
      let nx := fun (h : Lv) => (turn h).bind fun (_, r) => (meet io r.nx r.ct).bind fun m => meet io h m
      (nx g).bind fun h1 => (nx h1).bind fun h2 => (nx h2).bind fun h3 => (turn h3).bind fun (h4, r) =>
        if lowC io h3 g && lowC io h3 r.nx && lowC io h3 r.ct then (meet io h4 r.bk).bind fun m => some ⟨m, topL g, topL g⟩ else none
    | _ => none
  | .for_ tg it b, st, g => match st with
    | .For etg eit bb [] _ => if chkTg N tg etg && (tg.slots.all fun i => setOk N io sc g i) then
        (chkIt I N io sc it eit (isTup etg) g).bind fun g1 =>
        let nx := fun (h : Lv) => (chkSs sc b bb h).bind fun r => (meet io r.nx r.ct).bind fun m => (meet io h m).bind fun m => some (zeroL m tg.slots)
        (nx (zeroL g1 tg.slots)).bind fun h1 => (nx h1).bind fun h2 => (nx h2).bind fun h3 => (chkSs sc b bb h3).bind fun r =>
          if lowC io h3 g1 && lowC io h3 r.nx && lowC io h3 r.ct && (tg.slots.all fun i => decide (h3.getD i 0 = 0)) then (meet io h3 r.bk).bind fun m => some ⟨m, topL g, topL g⟩ else none
      else none
    | _ => none
  | .ret e, st, g => match st with
    | .Return (some ex) _ => (chkE I N io sc e ex g).bind fun (l, _) => if lr ≤ l then some ⟨topL g, topL g, topL g⟩ else none
    | .Return none _ => match e with
      | .cst .non => some ⟨topL g, topL g, topL g⟩
      | _ => none
    | _ => none
  | .retv i, st, g => match st with
    | .Return (some (.Name x _)) _ => if slotOk N sc g i x && !(io && decide (i = 0)) && decide (lr ≤ g.getD i 0) then some ⟨topL g, topL g, topL g⟩ else none
    | _ => none
  | .pass, st, g => match st with
    | .Pass _ => some ⟨g, topL g, topL g⟩
    | _ => none
  | .brk, st, g => match st with
    | .Break _ => some ⟨topL g, g, topL g⟩
    | _ => none
  | .cnt, st, g => match st with
    | .Continue _ => some ⟨topL g, topL g, g⟩
    | _ => none
  | .never, _, g => some ⟨topL g, topL g, topL g⟩
def chkSs (sc : Scope) : Ss → List Stmt → Lv → Option LR
  | .nil, [], g => some ⟨g, topL g, topL g⟩
  | .cons s ss, st :: sts, g => (chkS sc s st g).bind fun r1 => (chkSs sc ss sts r1.nx).bind fun r2 => (meet io r1.bk r2.bk).bind fun k => (meet io r1.ct r2.ct).bind fun t => some ⟨r2.nx, k, t⟩
  | _, _, _ => none
end
end
end Fh
end
section
set_option maxRecDepth 100000
set_option maxHeartbeats 2000000
/-! Statements: soundness, the first part. -/
namespace Fh
open PySem PySem.Spec PyProof.Rows L2

def SPost (T : Tb) (Wx : WX) (lr : Nat) (W : Addr → Prop) (ia : Option Addr) (r : LR) (F H : Hp) (σ : L2.St) (D : Ends) : Out → Prop
  | .nx ρ' => ∀ σ' F' H' fps', Rel T W ia F' H' σ' ρ' r.nx fps' → Pres W F H F' H' → D.nx σ' H'
  | .bk ρ' => ∀ σ' F' H' fps', Rel T W ia F' H' σ' ρ' r.bk fps' → Pres W F H F' H' → D.bk σ' H'
  | .ct ρ' => ∀ σ' F' H' fps', Rel T W ia F' H' σ' ρ' r.ct fps' → Pres W F H F' H' → D.ct σ' H'
  | .rt d ρ' => ∀ v σ' F' H' fps' fp gr, Rel T W ia F' H' σ' ρ' gr fps' → Pres W F H F' H' → RO T F' H' lr v d fp → New W F' H' fps' fp → D.rt v H'
  | .ex c dv => XPost T W F H Wx σ c dv
  | .bad => False

section
variable (I : Info) (T : Tb) (G : Nat → R D) (c : Callee) (wf : Nat) (k : Nat) (N : List Str) (io : Bool) (lr : Nat)
def tO (Wx : WX) (o : DEnv → Out) (g : Lv) (r : LR) : TS := fun D σ H => ∃ W ia F ρ fps, ia.isSome = io ∧ Rel T W ia F H σ ρ g fps ∧ SPost T Wx lr W ia r F H σ D (o ρ)
/-- what a statement's place gives -/
structure SX (Wx : WX) (X : Cx) : Prop where
  fn : ∀ x, X.fn x = true
  own : PassesOwn (model X.prog X.w) X.A X.env X.xe
  hW : ∀ a b σ σ' H, Wx a b σ H → Wx a b σ' H
  kd : X.env.scope.kind = .function
def MS (s : S) : Prop := ∀ {X : Cx} {sc : Scope} {Wx : WX} {st : Stmt} {g : Lv} {r : LR}, Ok I T G c k N Wx X → X.env.scope = sc → SX Wx X → chkS I N io lr sc s st g = some r → PS X st (tO T io lr Wx (run G c wf s) g r)
def MSs (ss : Ss) : Prop := ∀ {X : Cx} {sc : Scope} {Wx : WX} {sts : List Stmt} {g : Lv} {r : LR}, Ok I T G c k N Wx X → X.env.scope = sc → SX Wx X → chkSs I N io lr sc ss sts g = some r → PSs X sts (tO T io lr Wx (runs G c wf ss) g r)
end
section
variable {I : Info} {T : Tb} {G : Nat → R D} {c : Callee} {wf : Nat} {k : Nat} {N : List Str} {io : Bool} {lr : Nat} {X : Cx} {sc : Scope} {Wx : WX} {g g' g1 : Lv} {ex : Expr} {e : E} {es : Es} {W : Addr → Prop} {ia : Option Addr} {F F1 H H1 : Hp} {σ σ1 : L2.St} {l : Nat} {ρ : DEnv} {fps : Nat → List Addr} {r r' : LR} {D : Ends} {o : Out}

theorem SPost.weak (hi : ia.isSome = io) (hr : LeR io r' r) (h : SPost T Wx lr W ia r' F H σ D o) : SPost T Wx lr W ia r F H σ D o := by
  cases o with
  | nx ρ' =>
    intro σ' F' H' fps' a1 a2
    obtain ⟨F2, fps2, r2, p2, _⟩ := a1.weakAll hr.nx hi
    exact h σ' F2 H' fps2 r2 (a2.trans p2)
  | bk ρ' =>
    intro σ' F' H' fps' a1 a2
    obtain ⟨F2, fps2, r2, p2, _⟩ := a1.weakAll hr.bk hi
    exact h σ' F2 H' fps2 r2 (a2.trans p2)
  | ct ρ' =>
    intro σ' F' H' fps' a1 a2
    obtain ⟨F2, fps2, r2, p2, _⟩ := a1.weakAll hr.ct hi
    exact h σ' F2 H' fps2 r2 (a2.trans p2)
  | rt d ρ' => exact h
  | ex c dv => exact h
  | bad => exact h
theorem SPost.step (hW : ∀ a b σ σ' H, Wx a b σ H → Wx a b σ' H) (p : Pres W F H F1 H1) (h : SPost T Wx lr W ia r F H σ D o) : SPost T Wx lr W ia r F1 H1 σ1 D o := by
  cases o with
  | nx ρ' => exact fun σ' F' H' fps' a1 a2 => h σ' F' H' fps' a1 (p.trans a2)
  | bk ρ' => exact fun σ' F' H' fps' a1 a2 => h σ' F' H' fps' a1 (p.trans a2)
  | ct ρ' => exact fun σ' F' H' fps' a1 a2 => h σ' F' H' fps' a1 (p.trans a2)
  | rt d ρ' => exact fun v σ' F' H' fps' fp gr a1 a2 => h v σ' F' H' fps' fp gr a1 (p.trans a2)
  | ex c dv => exact fun C dx v F' H' a1 a2 a3 a4 a5 a6 => hW _ _ σ σ1 _ (XPost.step (show XPost T W F H Wx σ c dv from h) p (fun _ z => z) C dx v F' H' a1 a2 a3 a4 a5 a6)
  | bad => exact h
/-- an expression ahead of what is left -/
theorem SPost.out {α : Type} {x : R α} {f : α → Out} (h : SPost T Wx lr W ia r F H σ D (x.out f)) : (∃ a, x = .ok a ∧ SPost T Wx lr W ia r F H σ D (f a)) ∨ (∃ k v, x = .ex k v ∧ XPost T W F H Wx σ k v) := by
  cases x with
  | ok a => exact .inl ⟨a, rfl, h⟩
  | ex k v => exact .inr ⟨k, v, rfl, h⟩
  | bad => exact False.elim h
/-- .. as the reading of the expression -/
theorem rd_out {f : Fh.D × DEnv → Out} {Q : VK} (h : SPost T Wx lr W ia r F H σ D ((ev G c e ρ).out f)) (hq : ∀ d ρ1, SPost T Wx lr W ia r F H σ D (f (d, ρ1)) → EPost T W ia g1 l F H Wx σ Q (.ok (d, ρ1))) : EPost T W ia g1 l F H Wx σ Q (ev G c e ρ) := by
  rcases h.out with ⟨⟨d, ρ1⟩, e1, h⟩ | ⟨k, v, e1, h⟩
  · rw [e1]; exact hq d ρ1 h
  · rw [e1]; exact h

theorem setOk_of (h : setOk N io sc g i = true) {x : Str} (hx : N[i]? = some x) : Loc sc x ∧ i < g.length ∧ (io = true → i ≠ 0) := by
  unfold setOk at h
  rw [hx] at h
  simp only [Bool.and_eq_true, decide_eq_true_eq] at h
  obtain ⟨⟨h1, h2⟩, h3⟩ := h
  refine ⟨?_, h2, ne_io io h3⟩
  unfold looksK at h1
  simp only [Bool.or_eq_true, beq_iff_eq] at h1
  exact h1
theorem io_of (hi : ia.isSome = io) (h : io = true → i ≠ 0) : ia = none ∨ i ≠ 0 := by
  cases e : ia with
  | none => exact .inl rfl
  | some a => exact .inr (h (by rw [← hi, e]; rfl))
theorem s_asg {i : Nat} : MS I T G c wf k N io lr (.asg i e) := by
  intro X sc Wx st g r ok hsc sx h
  simp only [chkS] at h
  split at h
  · rename_i x p ex pos
    split at h
    · rename_i hc
      simp only [Bool.and_eq_true, decide_eq_true_eq] at hc
      obtain ⟨⟨hx, hs⟩, hcomp⟩ := hc
      obtain ⟨⟨l, g1⟩, h1, h⟩ := bind_some h
      cases h
      obtain ⟨hloc, hl, hio⟩ := setOk_of hs hx
      have lg := (le_all I N io e h1).len
      have rd : ∀ (D : Ends) σ H, tO T io lr Wx (run G c wf (.asg i e)) g ⟨g1.set i l, topL g, topL g⟩ D σ H → tAsg (tI T G c io Wx e g g1 l) (gName i) D σ H := by
        rintro D σ H ⟨W, ia, F, ρ, fps, hi, r, q⟩
        have e1 : run G c wf (.asg i e) ρ = (ev G c e ρ).out fun (d, ρ1) => .nx (ρ1.set i (some d)) := by simp only [run]
        rw [e1] at q
        refine ⟨W, ia, F, ρ, fps, hi, r, rd_out q fun d ρ1 q => ?_⟩
        intro v F' H' fps' fp a1 a2 a3 a4
        exact q _ F' H' _ (a1.put (by rw [lg]; exact hl) (io_of hi hio) a3 a4) a2
      have pe := (me_all I T G c k N io e ok hsc h1).1
      have hNx : X.N[i]? = some x := by rw [ok.hN]; exact hx
      have plain : swapsWith ex (some (.Name x p)) pos.line X.env = pure false → PS X (.Assign [.Name x p] ex pos) (tO T io lr Wx (run G c wf (.asg i e)) g ⟨g1.set i l, topL g, topL g⟩) := fun hsw =>
        PS.of (ps_set ok.nd hNx (by rw [hsc]; exact hloc) pe hsw (.inl (sx.fn x))) rd
      by_cases hcomp2 : isCompE e = true
      · cases e <;> first | (cases hcomp2; done) | skip
        rename_i elt own tg it ifs
        obtain ⟨hpe, both⟩ := comp_both (me_all I T G c k N io elt) (mit_all I T G c k N io it) (mes_all I T G c k N io ifs) ok hsc h1
        cases ex <;> first | (exact plain rfl) | skip
        · rename_i eelt gs scope cpos
          have hsw : swapsWith (.ListComp eelt gs scope cpos) (some (.Name x p)) pos.line X.env = pure (X.env.blockKind == .function && X.env.kindOf x == some .local && p.line == cpos.line && !(scope.names.any fun (n, k) => n == x && (k == .local || k == .cell))) := by
            unfold swapsWith; rfl
          cases hb : (X.env.blockKind == .function && X.env.kindOf x == some .local && p.line == cpos.line && !(scope.names.any fun (n, k) => n == x && (k == .local || k == .cell))) with
          | false => rw [hb] at hsw; exact plain hsw
          | true =>
            rw [hb] at hsw
            simp only [Bool.and_eq_true, beq_iff_eq] at hb
            exact PS.of (both hNx hb.1.1.2 hsw) rd
        all_goals (simp only [chkE] at h1; cases h1)
      · have : isComp ex = false := by
          rw [Bool.or_eq_true] at hcomp
          rcases hcomp with z | z
          · exact absurd z hcomp2
          · simpa using z
        refine plain ?_
        cases ex <;> first | rfl | (simp [isComp] at this; done)
    · cases h
  · cases h
theorem hloc_of {is : List Nat} (hsc : X.env.scope = sc) (sx : SX Wx X) (h : ∀ i ∈ is, setOk N io sc g i = true) : ∀ i ∈ is, ∀ x, N[i]? = some x → Loc X.env.scope x ∧ (X.fn x = true ∨ X.env.scope.names.lookup x = some .local) := fun i m x e =>
  ⟨by rw [hsc]; exact (setOk_of (h i m) e).1, .inl (sx.fn x)⟩
theorem setOk_len (h : setOk N io sc g i = true) : i < g.length ∧ (io = true → i ≠ 0) := by
  unfold setOk at h
  simp only [Bool.and_eq_true, decide_eq_true_eq] at h
  exact ⟨h.1.2, ne_io io h.2⟩
theorem zeroL_in {is : List Nat} {i : Nat} (m : i ∈ is) (h : i < g.length) : (zeroL g is).getD i 0 = 0 := by unfold zeroL; exact foldset_in is (fun _ => 0) g i m h
theorem zeroL_len {is : List Nat} : (zeroL g is).length = g.length := by unfold zeroL; exact foldset_len is (fun _ => 0) g
theorem s_asgT {is : List Nat} : MS I T G c wf k N io lr (.asgT is e) := by
  intro X sc Wx st g r ok hsc sx h
  simp only [chkS] at h
  split at h
  · rename_i ts kk p ex pos
    split at h
    · rename_i hc
      simp only [Bool.and_eq_true, List.all_eq_true] at hc
      obtain ⟨⟨ht, hs⟩, hnt⟩ := hc
      obtain ⟨⟨l, g1⟩, h1, h⟩ := bind_some h
      cases h
      have pe := s_low (me_all I T G c k N io e ok hsc h1).1
      have lg := (le_all I N io e h1).len
      have pg := pg_tg (X := X) ok.hN ok.nd ok.calm ht (hloc_of hsc sx hs)
      refine PS.of (ps_asg pe pg (by cases ex <;> rfl) (by cases ex <;> first | rfl | (simp [isTupE] at hnt; done)) rfl) ?_
      rintro D σ H ⟨W, ia, F, ρ, fps, hi, r, q⟩
      have e1 : run G c wf (.asgT is e) ρ = (ev G c e ρ).out fun (d, ρ1) => ((Tg.tup is).set d ρ1).out fun ρ2 => .nx ρ2 := by simp only [run]
      rw [e1] at q
      refine ⟨W, ia, F, ρ, fps, hi, r, rd_out q fun d ρ1 q => ?_⟩
      intro v F' H' fps' fp a1 a2 a3 a4
      have q : SPost T Wx lr W ia ⟨zeroL g1 is, topL g, topL g⟩ F H σ D (((Tg.tup is).set d ρ1).out fun ρ2 => .nx ρ2) := q
      have h0 : io = true → 0 ∉ is := fun z m => (setOk_len (hs 0 m)).2 z rfl
      obtain ⟨F2, fps2, r2, p2, _⟩ := a1.weakAll (zeroL_le io h0) hi
      rcases q.out with ⟨ρ2, e2, q⟩ | ⟨k, v, e2, _⟩
      · obtain ⟨σ', fps3, k1, k2, _, _⟩ := tg_put (t := .tup is) r2 (a3.zero.le p2.f) e2 fun i m => ⟨by rw [zeroL_len, lg]; exact (setOk_len (hs i m)).1, zeroL_in m (by rw [lg]; exact (setOk_len (hs i m)).1), io_of hi (setOk_len (hs i m)).2⟩
        rw [ok.hK]
        exact k1 _ (q σ' F2 H' fps3 k2 (a2.trans p2))
      · exfalso
        cases d <;> simp only [Tg.set] at e2 <;> first | (cases e2; done) | skip
        split at e2 <;> cases e2
    · cases h
  · cases h
theorem s_exp : MS I T G c wf k N io lr (.exp e) := by
  intro X sc Wx st g r ok hsc sx h
  simp only [chkS] at h
  split at h
  · rename_i ex pos
    split at h
    · cases h
    · rename_i hn
      obtain ⟨⟨l, g1⟩, h1, h⟩ := bind_some h
      cases h
      have pe := (me_all I T G c k N io e ok hsc h1).1
      refine PS.of (ps_expr pe (by cases ex <;> first | rfl | (simp [isComp] at hn; done))) ?_
      rintro D σ H ⟨W, ia, F, ρ, fps, hi, r, q⟩
      have e1 : run G c wf (.exp e) ρ = (ev G c e ρ).out fun (_, ρ1) => .nx ρ1 := by simp only [run]
      rw [e1] at q
      refine ⟨W, ia, F, ρ, fps, hi, r, rd_out q fun d ρ1 q => ?_⟩
      intro v F' H' fps' fp a1 a2 a3 a4
      exact q σ F' H' fps' a1 a2
  · cases h
theorem s_ret : MS I T G c wf k N io lr (.ret e) := by
  intro X sc Wx st g r ok hsc sx h
  simp only [chkS] at h
  split at h
  · rename_i ex pos
    obtain ⟨⟨l, g1⟩, h1, h⟩ := bind_some h
    split at h
    · rename_i hl
      cases h
      have pe := (me_all I T G c k N io e ok hsc h1).1
      refine PS.of (ps_ret pe) ?_
      rintro D σ H ⟨W, ia, F, ρ, fps, hi, r, q⟩
      have e1 : run G c wf (.ret e) ρ = (ev G c e ρ).out fun (d, ρ1) => .rt d ρ1 := by simp only [run]
      rw [e1] at q
      refine ⟨W, ia, F, ρ, fps, hi, r, EPost.weak (g' := g1) (m := lr) hi hl (LeC.refl _) (rd_out q fun d ρ1 q => ?_)⟩
      intro v F' H' fps' fp a1 a2 a3 a4
      exact q v σ F' H' fps' fp g1 a1 a2 a3 a4
    · cases h
  · split at h
    · cases h
      refine PS.of ps_retN ?_
      rintro D σ H ⟨W, ia, F, ρ, fps, hi, r, q⟩
      have e1 : run G c wf (.ret (.cst .non)) ρ = .rt .non ρ := by simp only [run, ev, R.out_ok]
      rw [e1] at q
      exact q .non σ F H fps [] g r Pres.refl (.sc rfl .non) New.nil
    · cases h
  · cases h
theorem s_pass : MS I T G c wf k N io lr .pass := by
  intro X sc Wx st g r ok hsc sx h
  simp only [chkS] at h
  split at h
  · cases h
    refine PS.of ps_pass ?_
    rintro D σ H ⟨W, ia, F, ρ, fps, hi, r, q⟩
    have e1 : run G c wf .pass ρ = .nx ρ := by simp only [run]
    rw [e1] at q
    exact q σ F H fps r Pres.refl
  · cases h
theorem s_brk : MS I T G c wf k N io lr .brk := by
  intro X sc Wx st g r ok hsc sx h
  simp only [chkS] at h
  split at h
  · cases h
    refine PS.of ps_break ?_
    rintro D σ H ⟨W, ia, F, ρ, fps, hi, r, q⟩
    have e1 : run G c wf .brk ρ = .bk ρ := by simp only [run]
    rw [e1] at q
    exact q σ F H fps r Pres.refl
  · cases h
theorem s_cnt : MS I T G c wf k N io lr .cnt := by
  intro X sc Wx st g r ok hsc sx h
  simp only [chkS] at h
  split at h
  · cases h
    refine PS.of ps_continue ?_
    rintro D σ H ⟨W, ia, F, ρ, fps, hi, r, q⟩
    have e1 : run G c wf .cnt ρ = .ct ρ := by simp only [run]
    rw [e1] at q
    exact q σ F H fps r Pres.refl
  · cases h
theorem s_never : MS I T G c wf k N io lr .never := by
  intro X sc Wx st g r ok hsc sx h
  refine PS.of ps_never ?_
  rintro D σ H ⟨W, ia, F, ρ, fps, hi, r, q⟩
  have e1 : run G c wf .never ρ = .bad := by simp only [run]
  rw [e1] at q
  exact q
theorem ss_nil : MSs I T G c wf k N io lr .nil := by
  intro X sc Wx sts g r ok hsc sx h
  cases sts <;> simp only [chkSs] at h <;> cases h
  refine PSs.of pss_nil ?_
  rintro D σ H ⟨W, ia, F, ρ, fps, hi, r, q⟩
  have e1 : runs G c wf .nil ρ = .nx ρ := by simp only [runs]
  rw [e1] at q
  exact q σ F H fps r Pres.refl
theorem ss_cons {s : S} {ss : Ss} (i1 : MS I T G c wf k N io lr s) (i2 : MSs I T G c wf k N io lr ss) : MSs I T G c wf k N io lr (.cons s ss) := by
  intro X sc Wx sts g r ok hsc sx h
  cases sts with
  | nil => simp only [chkSs] at h; cases h
  | cons st sts =>
    simp only [chkSs] at h
    obtain ⟨r1, h1, h⟩ := bind_some h
    obtain ⟨r2, h2, h⟩ := bind_some h
    obtain ⟨kk, h3, h⟩ := bind_some h
    obtain ⟨tt, h4, h⟩ := bind_some h
    cases h
    have b3 := meet_of h3
    have b4 := meet_of h4
    refine PSs.of (pss_cons (i1 ok hsc sx h1) (i2 ok hsc sx h2)) ?_
    rintro D σ H ⟨W, ia, F, ρ, fps, hi, r, q⟩
    have e1 : runs G c wf (.cons s ss) ρ = match run G c wf s ρ with
      | .nx ρ1 => runs G c wf ss ρ1
      | o => o := by simp only [runs] <;> rfl
    rw [e1] at q
    refine ⟨W, ia, F, ρ, fps, hi, r, ?_⟩
    cases hs : run G c wf s ρ with
    | nx ρ1 =>
      rw [hs] at q
      intro σ' F' H' fps' a1 a2
      have q2 : SPost T Wx lr W ia r2 F H σ D (runs G c wf ss ρ1) := SPost.weak (r' := ⟨r2.nx, kk, tt⟩) hi ⟨LeC.refl _, b3.2, b4.2⟩ q
      exact ⟨W, ia, F', ρ1, fps', hi, a1, q2.step sx.hW a2⟩
    | bk ρ1 =>
      rw [hs] at q
      exact SPost.weak (r' := ⟨r2.nx, kk, tt⟩) (r := ⟨r2.nx, r1.bk, r1.ct⟩) hi ⟨LeC.refl _, b3.1, b4.1⟩ q
    | ct ρ1 =>
      rw [hs] at q
      exact SPost.weak (r' := ⟨r2.nx, kk, tt⟩) (r := ⟨r2.nx, r1.bk, r1.ct⟩) hi ⟨LeC.refl _, b3.1, b4.1⟩ q
    | rt d ρ1 => rw [hs] at q; exact q
    | ex c v => rw [hs] at q; exact q
    | bad => rw [hs] at q; exact q
theorem SPost.ends {D' : Ends} (h : SPost T Wx lr W ia r F H σ D o) (h1 : ∀ σ H, D.nx σ H → D'.nx σ H) (h2 : ∀ v H, D.rt v H → D'.rt v H) (h3 : ∀ σ H, D.bk σ H → D'.bk σ H) (h4 : ∀ σ H, D.ct σ H → D'.ct σ H) : SPost T Wx lr W ia r F H σ D' o := by
  cases o with
  | nx ρ' => exact fun σ' F' H' fps' a1 a2 => h1 _ _ (h σ' F' H' fps' a1 a2)
  | bk ρ' => exact fun σ' F' H' fps' a1 a2 => h3 _ _ (h σ' F' H' fps' a1 a2)
  | ct ρ' => exact fun σ' F' H' fps' a1 a2 => h4 _ _ (h σ' F' H' fps' a1 a2)
  | rt d ρ' => exact fun v σ' F' H' fps' fp gr a1 a2 a3 a4 => h2 _ _ (h v σ' F' H' fps' fp gr a1 a2 a3 a4)
  | ex c dv => exact h
  | bad => exact h
/-- a test ahead of what is left -/
theorem rd_test {f : Bool → DEnv → Out} {Q : Bool → Hp → Prop} (h : SPost T Wx lr W ia r F H σ D ((ev G c e ρ).out fun (d, ρ1) => (truth d).out fun k => f k ρ1))
    (hq : ∀ b ρ1, SPost T Wx lr W ia r F H σ D (f b ρ1) → ∀ F' H' fps', Rel T W ia F' H' σ ρ1 g1 fps' → Pres W F H F' H' → Q b H') : TPost T Wx W ia g1 F H σ Q (ev G c e ρ) := by
  rcases h.out with ⟨⟨d, ρ1⟩, e1, h⟩ | ⟨k, v, e1, h⟩
  · rw [e1]
    have h : SPost T Wx lr W ia r F H σ D ((truth d).out fun k => f k ρ1) := h
    rcases h.out with ⟨b, e2, h⟩ | ⟨k, v, e2, h⟩
    · exact ⟨b, e2, hq b ρ1 h⟩
    · exact absurd e2 truth_ex
  · rw [e1]; exact h
theorem s_ite {a b : Ss} (i2 : MSs I T G c wf k N io lr a) (i3 : MSs I T G c wf k N io lr b) : MS I T G c wf k N io lr (.ite e a b) := by
  intro X sc Wx st g r ok hsc sx h
  simp only [chkS] at h
  split at h
  · obtain ⟨⟨l, g1⟩, h1, h⟩ := bind_some h
    obtain ⟨ra, h2, h⟩ := bind_some h
    obtain ⟨rb, h3, h⟩ := bind_some h
    obtain ⟨m1, m2⟩ := meetR_of h
    refine PS.of (ps_if (me_all I T G c k N io e ok hsc h1).2 (i2 ok hsc sx h2) (i3 ok hsc sx h3)) ?_
    rintro D σ H ⟨W, ia, F, ρ, fps, hi, r0, q⟩
    have e1 : run G c wf (.ite e a b) ρ = (ev G c e ρ).out fun (d, ρ1) => (truth d).out fun k => if k then runs G c wf a ρ1 else runs G c wf b ρ1 := by simp only [run]
    rw [e1] at q
    refine ⟨W, ia, F, ρ, fps, hi, r0, rd_test (f := fun k ρ1 => if k then runs G c wf a ρ1 else runs G c wf b ρ1) q fun kb ρ1 q F' H' fps' a1 a2 => ?_⟩
    cases kb with
    | true =>
      rw [if_pos rfl] at q ⊢
      exact ⟨W, ia, F', ρ1, fps', hi, a1, (SPost.weak hi m1 q).step sx.hW a2⟩
    | false =>
      rw [if_neg (by decide)] at q ⊢
      exact ⟨W, ia, F', ρ1, fps', hi, a1, (SPost.weak hi m2 q).step sx.hW a2⟩
  · cases h
end
end Fh
end
section
set_option maxRecDepth 100000
set_option maxHeartbeats 2000000
/-! Statements: loops. -/
namespace Fh
open PySem PySem.Spec PyProof.Rows L2

section
variable {I : Info} {T : Tb} {G : Nat → R D} {c : Callee} {wf : Nat} {k : Nat} {N : List Str} {io : Bool} {lr : Nat} {X : Cx} {sc : Scope} {Wx : WX} {g g' g1 : Lv} {ex : Expr} {e : E} {es : Es} {W : Addr → Prop} {ia : Option Addr} {F F1 H H1 : Hp} {σ σ1 : L2.St} {l : Nat} {ρ : DEnv} {fps : Nat → List Addr} {r r' : LR} {o : Out}

theorem s_whl {b : Ss} (i2 : MSs I T G c wf k N io lr b) : MS I T G c wf k N io lr (.whl e b) := by
  intro X sc Wx st g r ok hsc sx h
  simp only [chkS] at h
  split at h
  · obtain ⟨h1, _, h⟩ := bind_some h
    obtain ⟨h2, _, h⟩ := bind_some h
    obtain ⟨h3, _, h⟩ := bind_some h
    obtain ⟨⟨h4, r0⟩, ht, h⟩ := bind_some h
    split at h
    · rename_i hc
      obtain ⟨m, hm, h⟩ := bind_some h
      cases h
      simp only [Bool.and_eq_true] at hc
      have c1 := lowC_of hc.1.1
      have c2 := lowC_of hc.1.2
      have c3 := lowC_of hc.2
      obtain ⟨m1, m2⟩ := meet_of hm
      obtain ⟨⟨l, h4'⟩, e1, ht⟩ := bind_some ht
      obtain ⟨r0', e2, ht⟩ := bind_some ht
      cases ht
      refine PS.of (ps_while sx.own (me_all I T G c k N io e ok hsc e1).2 (i2 ok hsc sx e2)) ?_
      rintro D σ H ⟨W, ia, F, ρ, fps, hi, r, q⟩
      have e3 : run G c wf (.whl e b) ρ = whileLoop (ev G c e) (fun r => runs G c wf b r) wf ρ := by simp only [run]
      rw [e3] at q
      obtain ⟨F0, fps0, rr0, p0, _⟩ := r.weakAll c1 hi
      refine ⟨fun n σ H => ∃ F ρ fps, Rel T W ia F H σ ρ h3 fps ∧ SPost T Wx lr W ia ⟨m, topL g, topL g⟩ F H σ D (whileLoop (ev G c e) (fun r => runs G c wf b r) n ρ), ⟨wf, F0, ρ, fps0, rr0, q.step sx.hW p0⟩, ?_⟩
      rintro n σ H ⟨F, ρ, fps, r, q⟩
      cases n with
      | zero => exact False.elim q
      | succ n =>
        refine ⟨W, ia, F, ρ, fps, hi, r, rd_test (f := fun k ρ1 => if k then
          (match runs G c wf b ρ1 with
          | .nx ρ2 => whileLoop (ev G c e) (fun r => runs G c wf b r) n ρ2
          | .ct ρ2 => whileLoop (ev G c e) (fun r => runs G c wf b r) n ρ2
          | .bk ρ2 => .nx ρ2
          | o => o) else .nx ρ1) q fun kb ρ1 q F' H' fps' a1 a2 => ?_⟩
        cases kb with
        | false =>
          rw [if_neg (by decide)] at q ⊢
          obtain ⟨F2, fps2, r2, p2, _⟩ := a1.weakAll m1 hi
          exact q σ F2 H' fps2 r2 (a2.trans p2)
        | true =>
          rw [if_pos rfl] at q ⊢
          refine ⟨fun σ' H' => ∃ m', m' < n + 1 ∧ ∃ F ρ fps, Rel T W ia F H' σ' ρ h3 fps ∧ SPost T Wx lr W ia ⟨m, topL g, topL g⟩ F H' σ' D (whileLoop (ev G c e) (fun r => runs G c wf b r) m' ρ), fun _ _ z => z, W, ia, F', ρ1, fps', hi, a1, ?_⟩
          cases hb : runs G c wf b ρ1 with
          | nx ρ2 =>
            rw [hb] at q
            intro σ2 F2 H2 fps2 b1 b2
            obtain ⟨F3, fps3, r3, p3, _⟩ := b1.weakAll c2 hi
            exact ⟨n, Nat.lt_succ_self _, F3, ρ2, fps3, r3, SPost.step sx.hW ((a2.trans b2).trans p3) q⟩
          | ct ρ2 =>
            rw [hb] at q
            intro σ2 F2 H2 fps2 b1 b2
            obtain ⟨F3, fps3, r3, p3, _⟩ := b1.weakAll c3 hi
            exact ⟨n, Nat.lt_succ_self _, F3, ρ2, fps3, r3, SPost.step sx.hW ((a2.trans b2).trans p3) q⟩
          | bk ρ2 =>
            rw [hb] at q
            intro σ2 F2 H2 fps2 b1 b2
            obtain ⟨F3, fps3, r3, p3, _⟩ := b1.weakAll m2 hi
            exact q σ2 F3 H2 fps3 r3 ((a2.trans b2).trans p3)
          | rt d ρ2 =>
            rw [hb] at q
            exact fun v σ2 F2 H2 fps2 fp gr b1 b2 b3 b4 => q v σ2 F2 H2 fps2 fp gr b1 (a2.trans b2) b3 b4
          | ex kk v =>
            rw [hb] at q
            exact SPost.step (D := D) (r := ⟨m, topL g, topL g⟩) (lr := lr) (ia := ia) (o := .ex kk v) sx.hW a2 q
          | bad => rw [hb] at q; exact False.elim q
    · cases h
  · cases h
theorem s_for {tg : Tg} {it : It} {b : Ss} (i2 : MSs I T G c wf k N io lr b) : MS I T G c wf k N io lr (.for_ tg it b) := by
  intro X sc Wx st g r ok hsc sx h
  simp only [chkS] at h
  split at h
  · rename_i etg eit bb pos
    split at h
    · rename_i hc
      simp only [Bool.and_eq_true, List.all_eq_true] at hc
      obtain ⟨ht, hs⟩ := hc
      obtain ⟨g1, hg1, h⟩ := bind_some h
      obtain ⟨h1, _, h⟩ := bind_some h
      obtain ⟨h2, _, h⟩ := bind_some h
      obtain ⟨h3, _, h⟩ := bind_some h
      obtain ⟨r0, e2, h⟩ := bind_some h
      split at h
      · rename_i hc
        obtain ⟨m, hm, h⟩ := bind_some h
        cases h
        simp only [Bool.and_eq_true, List.all_eq_true, decide_eq_true_eq] at hc
        obtain ⟨⟨⟨hc1, hc2⟩, hc3⟩, hz⟩ := hc
        have c1 := lowC_of hc1
        have c2 := lowC_of hc2
        have c3 := lowC_of hc3
        obtain ⟨m1, m2⟩ := meet_of hm
        have lg : h3.length = g.length := c1.len.trans (lit_all I N io it hg1).len
        obtain ⟨pi, hfold⟩ := mit_all I T G c k N io it (tg := etg) ok hsc hg1
        have pg := pg_tg (X := X) ok.hN ok.nd ok.calm ht (hloc_of hsc sx hs)
        refine PS.of (ps_for sx.own ok.calm pi pg (i2 ok hsc sx e2) hfold) ?_
        rintro D σ H ⟨W, ia, F, ρ, fps, hi, r, q⟩
        have e3 : run G c wf (.for_ tg it b) ρ = (evIt G c it ρ).out fun (ds, ρ1) => forLoop tg.set (fun r => runs G c wf b r) ds ρ1 := by simp only [run]
        rw [e3] at q
        refine ⟨W, ia, F, ρ, fps, hi, r, ?_⟩
        rcases q.out with ⟨⟨ds, ρ1⟩, e4, q⟩ | ⟨kk, v, e4, q⟩
        · rw [e4]
          have q : SPost T Wx lr W ia ⟨m, topL g, topL g⟩ F H σ D (forLoop tg.set (fun r => runs G c wf b r) ds ρ1) := q
          intro J F1 H1 fps1 r1 p1 wk
          obtain ⟨F0, fps0, rr0, p0, _⟩ := r1.weakAll c1 hi
          refine ⟨fun i n σ H => n = ds.length - i ∧ i ≤ ds.length ∧ ∃ F ρ fps, Rel T W ia F H σ ρ h3 fps ∧ Le F1 F ∧ SPost T Wx lr W ia ⟨m, topL g, topL g⟩ F H σ D (forLoop tg.set (fun r => runs G c wf b r) (ds.drop i) ρ),
            ⟨ds.length, by simp, Nat.zero_le _, F0, ρ1, fps0, rr0, p0.f, by simpa using q.step sx.hW (p1.trans p0)⟩, ?_⟩
          rintro i n σ H ⟨rfl, hile, F, ρ, fps, r, leF, q⟩
          have hF1 : Le F1 H := leF.trans r.sub
          by_cases hlt : i < ds.length
          · refine .inr ⟨wk.go i H hlt hF1, fun σ' H' => (i + 1 ≤ ds.length ∧ ∃ F ρ fps, Rel T W ia F H' σ' ρ h3 fps ∧ Le F1 F ∧ SPost T Wx lr W ia ⟨m, topL g, topL g⟩ F H' σ' D (forLoop tg.set (fun r => runs G c wf b r) (ds.drop (i + 1)) ρ)),
              fun σ' H' z => ⟨ds.length - (i + 1), by omega, rfl, z.1, z.2⟩, fun x Hx y => ?_⟩
            obtain ⟨d, kx, fpx, hd, hle, hro, hndx, hnewx⟩ := wk.yld i H x Hx hlt hF1 y
            have hdrop : ds.drop i = d :: ds.drop (i + 1) := by
              obtain ⟨z1, z2⟩ := List.getElem?_eq_some_iff.mp hd
              rw [List.drop_eq_getElem_cons z1, z2]
            rw [hdrop] at q
            have q : SPost T Wx lr W ia ⟨m, topL g, topL g⟩ F H σ D ((tg.set d ρ).out fun ρ1 => match runs G c wf b ρ1 with
              | .nx ρ2 => forLoop tg.set (fun r => runs G c wf b r) (ds.drop (i + 1)) ρ2
              | .ct ρ2 => forLoop tg.set (fun r => runs G c wf b r) (ds.drop (i + 1)) ρ2
              | .bk ρ2 => .nx ρ2
              | o => o) := q
            rcases q.out with ⟨ρs, hset, q⟩ | ⟨kk, v, hset, q⟩
            · have hXn : ∀ a ∈ fpx, ∀ j, a ∉ fps j := fun a m j z => (r.own j a z).1 (hnewx a m).1
              have rX := (r.ext hle).frz hXn
              have leFx : Le F (addF F Hx fpx) := addF_le (r.sub.trans hle)
              have rd : RD T (addF F Hx fpx) x d := (hro F leF r.sub).toRD leFx fun a m => addF_in m
              obtain ⟨σ', fps', k1, k2, k3, k4⟩ := tg_put rX rd hset fun j mj => ⟨by rw [lg]; exact (setOk_len (hs j mj)).1, hz j mj, io_of hi (setOk_len (hs j mj)).2⟩
              have pX : Pres W F H (addF F Hx fpx) Hx := (Pres.refl.ext hle fun a w => r.held a w).trans (Pres.frz (r.sub.trans hle) fun a m w => r.held a w (hnewx a m).1)
              rw [ok.hK]
              refine k1 _ ⟨W, ia, _, ρs, fps', hi, k2, ?_⟩
              cases hb : runs G c wf b ρs with
              | nx ρ2 =>
                rw [hb] at q
                intro σ2 F2 H2 fps2 b1 b2
                obtain ⟨F3, fps3, r3, p3, _⟩ := b1.weakAll c2 hi
                exact ⟨hlt, F3, ρ2, fps3, r3, ((leF.trans leFx).trans b2.f).trans p3.f, SPost.step sx.hW ((pX.trans b2).trans p3) q⟩
              | ct ρ2 =>
                rw [hb] at q
                intro σ2 F2 H2 fps2 b1 b2
                obtain ⟨F3, fps3, r3, p3, _⟩ := b1.weakAll c3 hi
                exact ⟨hlt, F3, ρ2, fps3, r3, ((leF.trans leFx).trans b2.f).trans p3.f, SPost.step sx.hW ((pX.trans b2).trans p3) q⟩
              | bk ρ2 =>
                rw [hb] at q
                intro σ2 F2 H2 fps2 b1 b2
                obtain ⟨F3, fps3, r3, p3, _⟩ := b1.weakAll m2 hi
                exact q σ2 F3 H2 fps3 r3 ((pX.trans b2).trans p3)
              | rt d ρ2 =>
                rw [hb] at q
                exact fun v σ2 F2 H2 fps2 fp gr b1 b2 b3 b4 => q v σ2 F2 H2 fps2 fp gr b1 (pX.trans b2) b3 b4
              | ex kk v =>
                rw [hb] at q
                exact SPost.step (D := D) (r := ⟨m, topL g, topL g⟩) (lr := lr) (ia := ia) (o := .ex kk v) sx.hW pX q
              | bad => rw [hb] at q; exact False.elim q
            · exfalso
              cases tg with
              | one i => simp only [Tg.set] at hset; cases hset
              | tup is =>
                cases d <;> simp only [Tg.set] at hset <;> first | (cases hset; done) | skip
                split at hset <;> cases hset
          · have hi2 : i = ds.length := by omega
            subst hi2
            rw [List.drop_length] at q
            refine .inl ⟨wk.stop H hF1, ?_⟩
            obtain ⟨F2, fps2, r2, p2, _⟩ := r.weakAll m1 hi
            exact q σ F2 H fps2 r2 p2
        · rw [e4]; exact q
      · cases h
    · cases h
  · cases h
end
end Fh
end
section
set_option maxRecDepth 100000
set_option maxHeartbeats 2000000
/-! Statements: several names at once. -/
namespace Fh
open PySem PySem.Spec PyProof.Rows L2

section
variable {X : Cx} {sc : Scope}
theorem swap_eq {ts vs : List Expr} {r : Option (List Str)} {k k2} {p p2 : Pos} (hsc : X.env.scope = sc) (kd : X.env.scope.kind = .function) (h : swapOf sc ts vs = some r) : swappedStores [.Tuple ts k p] (.Tuple vs k2 p2) X.env = pure r := by
  have hb : X.env.blockKind = .function := by unfold Env.blockKind; rw [kd]; rfl
  have hk : ∀ n, X.env.kindOf n = sc.names.lookup n := fun n => by rw [← hsc]; rfl
  have hne : (X.env.blockKind != .function) = false := by rw [hb]; rfl
  unfold swapOf at h
  unfold swappedStores
  simp only [hne, Bool.or_false, hk]
  split at h
  · rename_i c; cases h; exact if_pos c
  · rename_i c
    refine (if_neg c).trans ?_
    split at h
    · rename_i c2; cases h; exact if_pos c2
    · rename_i c2
      refine (if_neg c2).trans ?_
      dsimp only at h
      split at h
      · rename_i c3; cases h; exact if_pos c3
      · rename_i c3
        refine (if_neg c3).trans ?_
        split at h
        · rename_i c4; cases h; exact if_pos c4
        · rename_i c4
          refine (if_neg c4).trans ?_
          split at h
          · cases h
          · rename_i c5; cases h; refine (if_neg c5).trans ?_; rfl
theorem filterMap_all {α β : Type} (f : α → Option β) : ∀ {l : List α}, (l.filterMap f).length = l.length → ∀ (i : Nat) (a : α), l[i]? = some a → ∃ b, f a = some b ∧ (l.filterMap f)[i]? = some b
  | [], _, i, a, h => by simp at h
  | x :: l, hl, i, a, h => by
    cases e : f x with
    | none =>
      rw [List.filterMap_cons_none e] at hl
      have := List.length_filterMap_le f l
      simp at hl; omega
    | some b =>
      rw [List.filterMap_cons_some e] at hl ⊢
      cases i with
      | zero => simp at h; subst h; exact ⟨b, e, rfl⟩
      | succ i =>
        obtain ⟨b', h1, h2⟩ := filterMap_all f (l := l) (by simpa using hl) i a (by simpa using h)
        exact ⟨b', h1, by simpa using h2⟩
theorem zip_rev {α β : Type} : ∀ {xs : List α} {ys : List β}, xs.length = ys.length → xs.reverse.zip ys.reverse = (xs.zip ys).reverse
  | [], [], _ => rfl
  | x :: xs, y :: ys, h => by
    simp only [List.reverse_cons, List.zip_cons_cons]
    rw [List.zip_append (by simpa using h), zip_rev (by simpa using h)]
    rfl
  | [], _ :: _, h => by simp at h
  | _ :: _, [], h => by simp at h
def setAll {α : Type} (l : List (Nat × α)) (σ : List (Option α)) : List (Option α) := l.foldl (fun r p => r.set p.1 (some p.2)) σ
theorem setAll_comm {α : Type} (i : Nat) (v : Option α) : ∀ (l : List (Nat × α)) (σ : List (Option α)), i ∉ l.map (·.1) → setAll l (σ.set i v) = (setAll l σ).set i v
  | [], σ, _ => rfl
  | p :: l, σ, h => by
    simp only [List.map_cons, List.mem_cons, not_or] at h
    show setAll l ((σ.set i v).set p.1 (some p.2)) = (setAll l (σ.set p.1 (some p.2))).set i v
    rw [List.set_comm _ _ h.1, setAll_comm i v l _ h.2]
theorem setAll_rev {α : Type} : ∀ (l : List (Nat × α)) (σ : List (Option α)), (l.map (·.1)).Nodup → setAll l.reverse σ = setAll l σ
  | [], σ, _ => rfl
  | p :: l, σ, h => by
    simp only [List.map_cons, List.nodup_cons] at h
    have e : setAll (p :: l).reverse σ = (setAll l.reverse σ).set p.1 (some p.2) := by
      unfold setAll
      rw [List.reverse_cons, List.foldl_append]
      rfl
    rw [e, setAll_rev l σ h.2]
    exact (setAll_comm p.1 (some p.2) l σ h.1).symm
theorem names_store {pins : List (Addr × Obj)} {H : Hp} {E : Value → Shared → Prop} {Q : Unit → Shared → Prop} (hN : X.N.Nodup) : ∀ {js : List Nat} {ns : List Str} {vs : List V} {us : List Value} {σ : L2.St} {s : Shared}, js.length = ns.length → vs.length = js.length →
    (∀ p ∈ js.zip ns, X.N[p.1]? = some p.2 ∧ X.env.scope.names.lookup p.2 = some .local) → Vals vs us → Inv X pins σ H s → (∀ s', Inv X pins (setAll (js.zip vs) σ) H s' → Q () s') →
    wpAny (model X.prog X.w) X.A (assignInOrder (ns.map fun n => bindName X.env n) us) Q E s
  | [], [], [], _, σ, s, _, _, _, .nil, I, h => assignInOrder_nil (h s I)
  | j :: js, n :: ns, v :: vs, _, σ, s, h1, h2, h3, .cons r rs, I, h => by
    obtain ⟨k1, k2⟩ := h3 (j, n) List.mem_cons_self
    refine assignInOrder_cons (wpAny_bindName (store_ok I hN k1 (.inl k2) r (fun s2 I2 => ?_) (.inr k2)))
    exact names_store hN (by simpa using h1) (by simpa using h2) (fun p m => h3 p (List.mem_cons_of_mem _ m)) rs I2 h
  | [], _ :: _, _, _, _, _, h1, _, _, _, _, _ => by simp at h1
  | _ :: _, [], _, _, _, _, h1, _, _, _, _, _ => by simp at h1
  | [], [], _ :: _, _, _, _, _, h2, _, _, _, _ => by simp at h2
  | _ :: _, _ :: _, [], _, _, _, _, h2, _, _, _, _ => by simp at h2
def tParN (is : List Nat) (ta : TA) : TS := fun D σ H => ta σ H fun vs H1 => vs.length = is.length ∧ vs.length ≤ sizeLine ∧ D.nx (setAll (is.zip vs) σ) H1
theorem ps_parN {is : List Nat} {names : List Str} {tg : Expr} {exs : List Expr} {ta : TA} {k2 : Nat} {pt2 pos : Pos} (hc : X.calm = true) (hN : X.N.Nodup) (hnd : is.Nodup) (hl : is.length = names.length)
    (hx : ∀ p ∈ is.zip names, X.N[p.1]? = some p.2 ∧ X.env.scope.names.lookup p.2 = some .local) (ha : PA X exs ta) (hw : swappedStores [tg] (.Tuple exs k2 pt2) X.env = pure (some names)) :
    PS X (.Assign [tg] (.Tuple exs k2 pt2) pos) (tParN is ta) := by
  refine ⟨fun pins s σ H D I h => ?_⟩
  have hs : swapsWithSole [tg] (.Tuple exs k2 pt2) pos.line X.env = pure false := rfl
  rw [exec_Assign_arm]
  refine wpAny_bind (wpAny_standAt ?_)
  rw [hs]
  refine wpAny_bind (wpAny_pure ?_)
  rw [if_neg (by decide)]
  refine wpAny_bind (Tuple_ (thn (ha.run _ pins s σ H _ I h) fun us s1 ⟨vs, H1, I1, r1, e1, e2, q1⟩ => ?_))
  have hul : us.length = names.length := by rw [← r1.length, e1, hl]
  refine wpAny_newObj_type ?_ (by show us.toArray.size ≤ sizeLine; rw [List.size_toArray, ← r1.length]; exact e2)
  have I2 : Inv X pins σ H1 { s1 with heap := s1.heap.push { cls := .type "tuple", data := .seq us.toArray } } := I1.kept (t' := s1.toks) fun b o e => Heap.get?_push_of_some _ e
  rw [hw]
  refine wpAny_bind (wpAny_pure ?_)
  show wpAny (model X.prog X.w) X.A (do rule "assign.swapped-stores"; let items ← unpackItems (.ref s1.heap.objs.size) names.length none; assignInOrder (names.reverse.map fun n => bindName X.env n) items.reverse; pure Flow.next) _ _ _
  refine wpAny_bind (wpAny_rule (wpAny_bind ?_))
  have hsz : names.length = us.toArray.size := by simp [hul]
  rw [hsz]
  refine unpackItems_tuple (items := us.toArray) (I.ok.hd hc) (IsTup.new s1.heap _) fun h' hx' => ?_
  have I3 := I2.kept (h' := h') (t' := s1.toks) fun b o e => hx' b o (Nat.ne_of_lt (Heap.lt_size e)) e
  refine wpAny_bind (names_store (js := is.reverse) (vs := vs.reverse) hN (by simpa using hl) (by simpa using e1) (fun p m => ?_) r1.reverse I3 fun s' I4 => wpAny_pure ?_)
  · rw [zip_rev hl] at m
    exact hx p (by simpa using m)
  · rw [zip_rev e1.symm, setAll_rev] at I4
    · exact ⟨_, H1, I4, q1⟩
    · rw [List.map_fst_zip (by omega)]
      exact hnd
end

/-! ### each value with its level -/
inductive ROl (T : Tb) (F H : Hp) : List Nat → List V → List D → List (List Addr) → Prop
  | nil : ROl T F H [] [] [] []
  | cons {l v d fp ls vs ds fpl} : RO T F H l v d fp → ROl T F H ls vs ds fpl → ROl T F H (l :: ls) (v :: vs) (d :: ds) (fp :: fpl)
def LPost (T : Tb) (Wx : WX) (ls : List Nat) (W : Addr → Prop) (ia : Option Addr) (g' : Lv) (F H : Hp) (σ : L2.St) (Q : List V → Hp → Prop) : R (List D × DEnv) → Prop
  | .ok (ds, ρ') => ∀ vs F' H' fps' fpl, Rel T W ia F' H' σ ρ' g' fps' → Pres W F H F' H' → ROl T F' H' ls vs ds fpl → New W F' H' fps' fpl.flatten → Q vs H'
  | .ex c dv => XPost T W F H Wx σ c dv
  | .bad => False
def tEl (T : Tb) (G : Nat → R D) (c : Callee) (io : Bool) (Wx : WX) (es : Es) (g g' : Lv) (ls : List Nat) : TA := fun σ H Q => ∃ W ia F ρ fps, ia.isSome = io ∧ Rel T W ia F H σ ρ g fps ∧ LPost T Wx ls W ia g' F H σ Q (evs G c es ρ)
section
variable {I : Info} {T : Tb} {G : Nat → R D} {c : Callee} {wf : Nat} {k : Nat} {N : List Str} {io : Bool} {lr : Nat} {X : Cx} {sc : Scope} {Wx : WX} {g g' g1 : Lv} {ex : Expr} {e : E} {es : Es} {W : Addr → Prop} {ia : Option Addr} {F F1 F' H H1 H' : Hp} {σ σ1 : L2.St} {l : Nat} {ρ : DEnv} {fps : Nat → List Addr} {r r' : LR} {o : Out}
theorem ROl.stab (h : Le F F') : ∀ {ls : List Nat} {vs : List V} {ds : List D} {fpl : List (List Addr)}, ROl T F H ls vs ds fpl → (∀ a ∈ fpl.flatten, H' a = H a ∧ F' a = none) → ROl T F' H' ls vs ds fpl
  | _, _, _, _, .nil, _ => .nil
  | _, _, _, _, .cons r s, q => .cons (r.stab h fun a m => q a (by simp [m])) (s.stab h fun a m => q a (by
      simp only [List.flatten_cons, List.mem_append]
      exact .inr m))
theorem ROl.lens : ∀ {ls : List Nat} {vs : List V} {ds : List D} {fpl : List (List Addr)}, ROl T F H ls vs ds fpl → vs.length = ds.length ∧ ls.length = ds.length
  | _, _, _, _, .nil => ⟨rfl, rfl⟩
  | _, _, _, _, .cons r s => ⟨by simp [s.lens.1], by simp [s.lens.2]⟩
theorem rd_el {e : E} {g1 g2 : Lv} {l : Nat} {ls : List Nat} {Q : List V → Hp → Prop} (h : tEl T G c io Wx (.cons e es) g g2 (l :: ls) σ H Q) :
    tI T G c io Wx e g g1 l σ H fun x H1 => tEl T G c io Wx es g1 g2 ls σ H1 fun xs H2 => Q (x :: xs) H2 := by
  obtain ⟨W, ia, F, ρ, fps, hi, r, q⟩ := h
  have e1 : evs G c (.cons e es) ρ = (ev G c e ρ).bind fun (d, ρ1) => (evs G c es ρ1).bind fun (ds, ρ2) => .ok (d :: ds, ρ2) := by simp [evs]
  rw [e1] at q
  refine ⟨W, ia, F, ρ, fps, hi, r, ?_⟩
  cases hs : ev G c e ρ with
  | bad => rw [hs] at q; exact q
  | ex k v => rw [hs] at q; exact q
  | ok z =>
    obtain ⟨d, ρ1⟩ := z
    rw [hs] at q
    intro v F1 H1 fps1 fp r1 p1 o1 n1
    refine ⟨addW W fp, ia, F1, ρ1, fps1, hi, r1.hold n1, ?_⟩
    cases hs2 : evs G c es ρ1 with
    | bad => simp [hs2] at q; exact False.elim q
    | ex k v => simp [hs2] at q; exact XPost.step (show XPost T W F H Wx σ k v from q) p1 fun _ => addW_l
    | ok z =>
      obtain ⟨ds, ρ2⟩ := z
      simp [hs2] at q
      intro vs F2 H2 fps2 fq r2 p2 o2 n2
      exact q (v :: vs) F2 H2 fps2 (fp :: fq) (r2.monoW fun _ => addW_l) (p1.trans (p2.mono fun _ => addW_l)) (.cons (o1.stab p2.f (n1.here p2)) o2) (by simpa using n1.both p2 r2 n2)
theorem mono_tEl {Q Q' : List V → Hp → Prop} {ls : List Nat} (h : tEl T G c io Wx es g g' ls σ H Q) (hm : ∀ v H', Q v H' → Q' v H') : tEl T G c io Wx es g g' ls σ H Q' := by
  obtain ⟨W, ia, F, ρ, fps, hi, r, q⟩ := h
  refine ⟨W, ia, F, ρ, fps, hi, r, ?_⟩
  unfold LPost at q ⊢
  split at q
  · exact fun v F' H' fps' fp a1 a2 a3 a4 => hm _ _ (q v F' H' fps' fp a1 a2 a3 a4)
  · exact q
  · exact q
theorem pa_el (ok : Ok I T G c k N Wx X) (hsc : X.env.scope = sc) : ∀ {es : Es} {exs : List Expr} {g g' : Lv} {ls : List Nat}, chkEl I N io sc es exs g = some (ls, g') → PA X exs (tEl T G c io Wx es g g' ls) ∧ LeC io g' g ∧ es.len = exs.length
  | .nil, [], g, g', ls, h => by
    simp only [chkEl] at h
    cases h
    refine ⟨PA.of pa_nil fun σ H Q ⟨W, ia, F, ρ, fps, hi, r, q⟩ => ?_, LeC.refl _, rfl⟩
    have e1 : evs G c .nil ρ = .ok ([], ρ) := by simp [evs]
    rw [e1] at q
    exact q [] F H fps [] r Pres.refl .nil New.nil
  | .cons e es, ex :: exs, g, g', ls, h => by
    simp only [chkEl] at h
    split at h
    · rename_i hst
      obtain ⟨⟨l, g1⟩, h1, h⟩ := bind_some h
      obtain ⟨⟨ls', g2⟩, h2, h⟩ := bind_some h
      cases h
      obtain ⟨k1, k2, k3⟩ := pa_el ok hsc h2
      exact ⟨PA.of (pa_cons (me_all I T G c k N io e ok hsc h1).1 k1 (star_of hst)) fun σ H Q q => rd_el q, k2.trans (le_all I N io e h1), by simp [Es.len, k3]⟩
    · cases h
  | .nil, _ :: _, _, _, _, h => by simp only [chkEl] at h; cases h
  | .cons _ _, [], _, _, _, h => by simp only [chkEl] at h; cases h
theorem setsL_len : ∀ {is ls : List Nat} {g : Lv}, (setsL is ls g).length = g.length
  | [], _, _ => rfl
  | _ :: _, [], _ => rfl
  | i :: is, l :: ls, g => by
    show (setsL is ls (g.set i l)).length = g.length
    rw [setsL_len]; simp
/-- they go into the slots -/
theorem putAll : ∀ {is ls : List Nat} {vs : List V} {ds : List D} {fpl : List (List Addr)} {σ : L2.St} {ρ : DEnv} {g : Lv} {fps : Nat → List Addr}, Rel T W ia F H σ ρ g fps → ROl T F H ls vs ds fpl → New W F H fps fpl.flatten → is.length = ds.length → (∀ i ∈ is, i < g.length ∧ (ia = none ∨ i ≠ 0)) →
    ∃ fps', Rel T W ia F H (setAll (is.zip vs) σ) ((is.zip ds).foldl (fun r p => r.set p.1 (some p.2)) ρ) (setsL is ls g) fps'
  | [], _, _, _, _, σ, ρ, g, fps, r, .nil, _, _, _ => ⟨fps, r⟩
  | i :: is, _, _, _, _, σ, ρ, g, fps, r, .cons (fp := fp) (fpl := fpl) o os, n, hl, h => by
    obtain ⟨h1, h2⟩ := h i List.mem_cons_self
    have n1 : New W F H fps fp := ⟨(List.nodup_append.mp (by simpa using n.nd)).1, fun a m => n.ok a (by simp [m])⟩
    have r1 := r.put h1 h2 o n1
    obtain ⟨d1, d2, d3⟩ := List.nodup_append.mp (show (fp ++ fpl.flatten).Nodup from by simpa using n.nd)
    have n2 : New W F H (setF fps i fp) fpl.flatten := ⟨d2, fun a m => by
      obtain ⟨k1, k2, k3, k4⟩ := n.ok a (by simp only [List.flatten_cons, List.mem_append]; exact .inr m)
      refine ⟨k1, fun j z => ?_, k3, k4⟩
      by_cases hj : j = i
      · subst hj; rw [setF_same] at z; exact d3 a z a m rfl
      · rw [setF_ne hj] at z; exact k2 j z⟩
    obtain ⟨fps2, r2⟩ := putAll (is := is) r1 os n2 (Nat.succ.inj hl) fun j m => by
      obtain ⟨q1, q2⟩ := h j (List.mem_cons_of_mem _ m)
      exact ⟨by simpa using q1, q2⟩
    exact ⟨fps2, r2⟩
  | [], _, _, _, _, _, _, _, _, _, .cons _ _, _, hl, _ => by simp at hl
  | _ :: _, _, _, _, _, _, _, _, _, _, .nil, _, hl, _ => by simp at hl
theorem gNames_of : ∀ {is : List Nat} {vs : List V} {σ : L2.St} {H : Hp} {K : L2.St → Hp → Prop}, is.length = vs.length → K (setAll (is.zip vs) σ) H → gNames is vs σ H K
  | [], [], _, _, _, _, h => ⟨rfl, h⟩
  | i :: is, v :: vs, σ, H, K, hl, h => ⟨v, vs, rfl, gNames_of (is := is) (vs := vs) (σ := σ.set i (some v)) (by simpa using hl) h⟩
  | [], _ :: _, _, _, _, hl, _ => by simp at hl
  | _ :: _, [], _, _, _, hl, _ => by simp at hl
theorem zip_nth {α β : Type} {xs : List α} {ys : List β} {p : α × β} (m : p ∈ xs.zip ys) : ∃ i : Nat, xs[i]? = some p.1 ∧ ys[i]? = some p.2 := by
  obtain ⟨i, hi⟩ := List.mem_iff_getElem?.mp m
  obtain ⟨h1, h2⟩ := List.getElem?_zip_eq_some.mp hi
  exact ⟨i, h1, h2⟩
theorem s_par {is : List Nat} : MS I T G c wf k N io lr (.par is es) := by
  intro X sc Wx st g r ok hsc sx h
  simp only [chkS] at h
  split at h
  · rename_i ts kk p exs k2 p2 pos
    split at h
    · rename_i hc
      simp only [Bool.and_eq_true, List.all_eq_true, decide_eq_true_eq] at hc
      obtain ⟨⟨⟨⟨⟨ht, hs⟩, hnd⟩, hlen⟩, hsw⟩, hsz⟩ := hc
      obtain ⟨⟨ls, g1⟩, h1, h⟩ := bind_some h
      cases h
      obtain ⟨pa, c1, hel⟩ := pa_el (io := io) ok hsc h1
      have rd : ∀ (D : Ends) σ H, tO T io lr Wx (run G c wf (.par is es)) g ⟨setsL is ls g1, topL g, topL g⟩ D σ H → tEl T G c io Wx es g g1 ls σ H fun vs H1 => vs.length = is.length ∧ (∀ H2, Le H1 H2 → D.nx (setAll (is.zip vs) σ) H2) := by
        rintro D σ H ⟨W, ia, F, ρ, fps, hi, r, q⟩
        have e1 : run G c wf (.par is es) ρ = (evs G c es ρ).out fun (ds, ρ1) => .nx ((is.zip ds).foldl (fun r p => r.set p.1 (some p.2)) ρ1) := by simp only [run]
        rw [e1] at q
        refine ⟨W, ia, F, ρ, fps, hi, r, ?_⟩
        rcases q.out with ⟨⟨ds, ρ1⟩, e2, q⟩ | ⟨k, v, e2, q⟩
        · rw [e2]
          intro vs F1 H1 fps1 fpl r1 p1 o1 n1
          have hl : is.length = ds.length := by rw [evs_len e2, hel, hlen]
          refine ⟨by rw [o1.lens.1, hl], fun H2 hle => ?_⟩
          have hd : ∀ a ∈ fpl.flatten, H2 a = H1 a := fun a m => by
            have := (n1.ok a m).2.2.1
            cases e : H1 a with
            | none => exact absurd e this
            | some o => exact hle a o e
          have n2 : New W F1 H2 fps1 fpl.flatten := ⟨n1.nd, fun a m => by
            obtain ⟨k1, k2, k3, k4⟩ := n1.ok a m
            exact ⟨k1, k2, by rw [hd a m]; exact k3, k4⟩⟩
          obtain ⟨fps2, r2⟩ := putAll (is := is) (r1.ext hle) (o1.stab (Le.refl _) fun a m => ⟨hd a m, (n1.ok a m).2.2.2⟩) n2 hl fun i m => ⟨by rw [c1.len]; exact (setOk_len (hs i m)).1, io_of hi (setOk_len (hs i m)).2⟩
          exact (show SPost T Wx lr W ia ⟨setsL is ls g1, topL g, topL g⟩ F H σ D (.nx ((is.zip ds).foldl (fun r p => r.set p.1 (some p.2)) ρ1)) from q) _ F1 H2 fps2 r2 (p1.ext hle r.held)
        · rw [e2]; exact q
      have big : ∀ {n : Nat}, n = is.length → n ≤ sizeLine := fun e => by rw [e, ← hlen]; exact Nat.le_trans hsz (by decide)
      obtain ⟨w, hw⟩ := Option.isSome_iff_exists.mp hsw
      have hst := swap_eq (k := kk) (k2 := k2) (p := p) (p2 := p2) hsc sx.kd hw
      cases w with
      | none =>
        have pg := pg_tg (X := X) ok.hN ok.nd ok.calm ht (hloc_of hsc sx hs)
        refine PS.of (ps_asg (pe_tup (x1 := k2) (pos := p2) pa) pg rfl hst rfl) fun D σ H q => ?_
        refine mono_tEl (rd D σ H q) fun vs H1 z => ⟨big z.1, fun a ha => ?_⟩
        exact ⟨a, vs, rfl, .inl (.inl upd_same), z.1, gNames_of z.1.symm (z.2 _ (le_upd ha))⟩
      | some names =>
        have hnames : names.length = is.length ∧ ∀ p ∈ is.zip names, N[p.1]? = some p.2 ∧ sc.names.lookup p.2 = some .local := by
          simp only [chkTg, Bool.and_eq_true, decide_eq_true_eq, List.all_eq_true] at ht
          unfold swapOf at hw
          split at hw
          · cases hw
          · split at hw
            · cases hw
            · dsimp only at hw
              split at hw
              · cases hw
              · rename_i c3
                split at hw
                · cases hw
                · split at hw
                  · cases hw
                  · cases hw
                    simp only [Bool.or_eq_true, bne_iff_ne, ne_eq, not_or, Decidable.not_not] at c3
                    refine ⟨by rw [c3.1, ht.1], fun q m => ?_⟩
                    obtain ⟨i, z1, z2⟩ := zip_nth m
                    have hlt : i < ts.length := by rw [← ht.1]; exact (List.getElem?_eq_some_iff.mp z1).1
                    have zt : ts[i]? = some ts[i] := by simp [hlt]
                    obtain ⟨b, z3, z4⟩ := filterMap_all _ c3.1 i _ zt
                    rw [z4] at z2
                    cases z2
                    have z5 := ht.2 (q.1, ts[i]) (List.mem_of_getElem? (List.getElem?_zip_eq_some.mpr ⟨z1, zt⟩))
                    cases hti : ts[i] with
                    | Name y py =>
                      rw [hti] at z3 z5
                      dsimp only at z3 z5
                      split at z3
                      · rename_i hl
                        cases z3
                        simp only [Bool.and_eq_true, beq_iff_eq] at hl
                        exact ⟨of_decide_eq_true z5, hl.1⟩
                      · cases z3
                    | _ => rw [hti] at z3; cases z3
        refine PS.of (ps_parN ok.calm ok.nd hnd hnames.1.symm (fun p m => by rw [ok.hN, hsc]; exact hnames.2 p m) pa hst) fun D σ H q => ?_
        exact mono_tEl (rd D σ H q) fun vs H1 z => ⟨z.1, big z.1, z.2 _ (Le.refl _)⟩
    · cases h
  · cases h
end
end Fh
end
section
set_option maxRecDepth 100000
set_option maxHeartbeats 2000000
/-! Statements: stores into lists. -/
namespace Fh
open PySem PySem.Spec PyProof.Rows L2

section
variable {I : Info} {T : Tb} {G : Nat → R D} {c : Callee} {wf : Nat} {k : Nat} {N : List Str} {io : Bool} {lr : Nat} {X : Cx} {sc : Scope} {Wx : WX} {g g' g1 : Lv} {ex : Expr} {e : E} {es : Es} {W : Addr → Prop} {ia : Option Addr} {F F1 F' H H1 H' : Hp} {σ σ1 : L2.St} {l : Nat} {ρ : DEnv} {fps : Nat → List Addr} {r r' : LR} {o : Out}

theorem Rel.turn (r : Rel T W ia F H σ ρ g fps) {i : Nat} {a : Addr} {d' : D} {u : HO} {fp' : List Addr} (hσ : σ[i]? = some (some (.ref a))) (ha : a ∈ fps i) (ro : RO T F (upd H a u) (g.getD i 0) (.ref a) d' fp') (nd' : fp'.Nodup)
    (sub : ∀ b ∈ fp', b ∈ fps i ∨ (¬ W b ∧ (∀ j, b ∉ fps j) ∧ H b ≠ none ∧ F b = none)) (hio : ∀ b, ia = some b → i = 0 → fp' = [b]) : Rel T W ia F (upd H a u) σ (ρ.set i (some d')) g (setF fps i fp') := by
  have ne : ∀ b, b ≠ a → upd H a u b = H b := fun b h => upd_ne h
  obtain ⟨ha1, ha2, ha3⟩ := r.own i a ha
  have nj : ∀ j b, j ≠ i → b ∈ fps j → b ≠ a := fun j b hj m z => hj (r.dj j i b m (z ▸ ha))
  have dom : ∀ b, H b ≠ none → upd H a u b ≠ none := fun b h => by
    by_cases z : b = a
    · subst z; rw [upd_same]; simp
    · rw [ne b z]; exact h
  refine ⟨by rw [List.length_set]; exact r.len, fun b o e => ?_, fun j d e => ?_, fun j b m => ?_, fun j => ?_, fun j j2 b m1 m2 => ?_, fun b w => dom b (r.held b w), fun b e => ?_⟩
  · rw [ne b fun z => by rw [z, ha2] at e; cases e]
    exact r.sub b o e
  · by_cases hj : j = i
    · subst hj
      rw [List.getElem?_set_self'] at e
      cases hρ : ρ[j]? with
      | none => rw [hρ] at e; cases e
      | some o => rw [hρ] at e; cases e; exact ⟨_, hσ, by rw [setF_same]; exact ro⟩
    · rw [List.getElem?_set_ne (Ne.symm hj)] at e
      obtain ⟨v, e1, o⟩ := r.slot j d e
      exact ⟨v, e1, by rw [setF_ne hj]; exact o.stab (Le.refl _) fun b m => ⟨ne b (nj j b hj m), (r.own j b m).2.1⟩⟩
  · by_cases hj : j = i
    · subst hj
      rw [setF_same] at m
      rcases sub b m with z | ⟨z1, z2, z3, z4⟩
      · obtain ⟨h1, h2, h3⟩ := r.own j b z
        exact ⟨dom b h1, h2, h3⟩
      · exact ⟨dom b z3, z4, z1⟩
    · rw [setF_ne hj] at m
      obtain ⟨h1, h2, h3⟩ := r.own j b m
      exact ⟨dom b h1, h2, h3⟩
  · by_cases hj : j = i
    · subst hj; rw [setF_same]; exact nd'
    · rw [setF_ne hj]; exact r.nd j
  · by_cases hj : j = i
    · subst hj
      rw [setF_same] at m1
      by_cases hk : j2 = j
      · exact hk.symm
      · rw [setF_ne hk] at m2
        rcases sub b m1 with z | ⟨_, z2, _, _⟩
        · exact r.dj j j2 b z m2
        · exact absurd m2 (z2 j2)
    · rw [setF_ne hj] at m1
      by_cases hk : j2 = i
      · subst hk
        rw [setF_same] at m2
        rcases sub b m2 with z | ⟨_, z2, _, _⟩
        · exact r.dj j j2 b m1 z
        · exact absurd m1 (z2 j)
      · rw [setF_ne hk] at m2; exact r.dj j j2 b m1 m2
  · obtain ⟨h1, h2, h3, d0, h4⟩ := r.iok b e
    by_cases hj : i = 0
    · subst hj
      exact ⟨h1, by rw [setF_same]; exact hio b e rfl, h3, d', by rw [List.getElem?_set_self', h4]; rfl⟩
    · exact ⟨h1, by rw [setF_ne (Ne.symm hj)]; exact h2, h3, d0, by rw [List.getElem?_set_ne hj]; exact h4⟩
theorem Rel.drop (r : Rel T W ia F H σ ρ g fps) {i : Nat} {a : Addr} {u : HO} (ha : a ∈ fps i) (hi : ia = none ∨ i ≠ 0) (hg : i < g.length) : Rel T W ia F (upd H a u) σ (ρ.set i none) (g.set i 0) (setF fps i []) := by
  have ne : ∀ b, b ≠ a → upd H a u b = H b := fun b h => upd_ne h
  obtain ⟨ha1, ha2, ha3⟩ := r.own i a ha
  have nj : ∀ j b, j ≠ i → b ∈ fps j → b ≠ a := fun j b hj m z => hj (r.dj j i b m (z ▸ ha))
  have dom : ∀ b, H b ≠ none → upd H a u b ≠ none := fun b h => by
    by_cases z : b = a
    · subst z; rw [upd_same]; simp
    · rw [ne b z]; exact h
  refine ⟨by rw [List.length_set]; exact r.len, fun b o e => ?_, fun j d e => ?_, fun j b m => ?_, fun j => ?_, fun j j2 b m1 m2 => ?_, fun b w => dom b (r.held b w), fun b e => ?_⟩
  · rw [ne b fun z => by rw [z, ha2] at e; cases e]
    exact r.sub b o e
  · by_cases hj : j = i
    · subst hj
      rw [List.getElem?_set_self'] at e
      cases hρ : ρ[j]? with
      | none => rw [hρ] at e; cases e
      | some o => rw [hρ] at e; cases e
    · rw [List.getElem?_set_ne (Ne.symm hj)] at e
      obtain ⟨v, e1, o⟩ := r.slot j d e
      exact ⟨v, e1, by rw [setF_ne hj, getD_set g hg, if_neg hj]; exact o.stab (Le.refl _) fun b m => ⟨ne b (nj j b hj m), (r.own j b m).2.1⟩⟩
  · by_cases hj : j = i
    · subst hj; rw [setF_same] at m; simp at m
    · rw [setF_ne hj] at m
      obtain ⟨h1, h2, h3⟩ := r.own j b m
      exact ⟨dom b h1, h2, h3⟩
  · by_cases hj : j = i
    · subst hj; rw [setF_same]; exact List.nodup_nil
    · rw [setF_ne hj]; exact r.nd j
  · by_cases hj : j = i
    · subst hj; rw [setF_same] at m1; simp at m1
    · by_cases hk : j2 = i
      · subst hk; rw [setF_same] at m2; simp at m2
      · rw [setF_ne hj] at m1; rw [setF_ne hk] at m2; exact r.dj j j2 b m1 m2
  · have h0 : (0 : Nat) ≠ i := by
      rcases hi with z | z
      · rw [z] at e; cases e
      · exact Ne.symm z
    obtain ⟨h1, h2, h3, d0, h4⟩ := r.iok b e
    exact ⟨h1, by rw [setF_ne h0]; exact h2, by rw [getD_set g hg, if_neg h0]; exact h3, d0, by rw [List.getElem?_set_ne (Ne.symm h0)]; exact h4⟩
theorem ROs.set {v : V} {d : D} {fpv : List Addr} {m : Nat} (ro : RO T F H m v d fpv) : ∀ {vs : List V} {ds : List D} {fp : List Addr} (j : Nat), ROs T F H m vs ds fp → (fp ++ fpv).Nodup → ∃ fp', ROs T F H m (vs.set j v) (ds.set j d) fp' ∧ fp'.Nodup ∧ ∀ b ∈ fp', b ∈ fp ∨ b ∈ fpv
  | _, _, _, _, .nil, h => ⟨[], .nil, List.nodup_nil, fun b m => by simp at m⟩
  | _, _, _, 0, .cons (fp := fp0) (fq := fq) _ s, h => by
    refine ⟨fpv ++ fq, .cons ro s, ?_, fun b m => ?_⟩
    · obtain ⟨h1, h2, h3⟩ := List.nodup_append.mp h
      obtain ⟨k1, k2, k3⟩ := List.nodup_append.mp h1
      exact List.nodup_append.mpr ⟨h2, k2, fun a m b m' e => h3 b (List.mem_append_right _ m') a m e.symm⟩
    · rcases List.mem_append.mp m with m | m
      · exact .inr m
      · exact .inl (List.mem_append_right _ m)
  | _, _, _, j + 1, .cons (fp := fp0) (fq := fq) q s, h => by
    rw [List.append_assoc] at h
    obtain ⟨h1, h2, h3⟩ := List.nodup_append.mp h
    obtain ⟨fp', k1, k2, k3⟩ := ROs.set ro j s h2
    refine ⟨fp0 ++ fp', .cons q k1, List.nodup_append.mpr ⟨h1, k2, fun a m b m' => h3 a m b ?_⟩, fun b m => ?_⟩
    · exact List.mem_append.mpr (k3 b m')
    · rcases List.mem_append.mp m with m | m
      · exact .inl (List.mem_append_left _ m)
      · rcases k3 b m with z | z
        · exact .inl (List.mem_append_right _ z)
        · exact .inr z
theorem setIx_ex {a b v : D} {k : Nat} {w : D} : setIx a b v ≠ .ex k w := by
  unfold setIx
  split
  · split <;> simp
  · simp
theorem setIx_of : ∀ {dl dj dv dl' : D}, setIx dl dj dv = .ok dl' → ∃ xs n kx, dl = .list xs ∧ dj = .int n ∧ ixN xs.length n = some kx ∧ dl' = .list (xs.set kx dv)
  | .list xs, .int n, dv, dl', h => by
    have h : (match ixN xs.length n with | some k => R.ok (D.list (xs.set k dv)) | none => R.bad) = .ok dl' := h
    cases hk : ixN xs.length n with
    | none => rw [hk] at h; cases h
    | some kx => rw [hk] at h; cases h; exact ⟨xs, n, kx, rfl, rfl, hk, rfl⟩
  | .list _, .non, _, _, h | .list _, .bool _, _, _, h | .list _, .str _, _, _, h | .list _, .list _, _, _, h | .list _, .tup _, _, _, h | .list _, .dict _ _, _, _, h | .list _, .fn _, _, _, h | .list _, .cls _, _, _, h => by cases h
  | .non, _, _, _, h | .bool _, _, _, _, h | .int _, _, _, _, h | .str _, _, _, _, h | .tup _, _, _, _, h | .dict _ _, _, _, _, h | .fn _, _, _, _, h | .cls _, _, _, _, h => by cases h
theorem appD_ex {a v : D} {k : Nat} {w : D} : appD a v ≠ .ex k w := by
  unfold appD
  split
  · split <;> simp
  · simp
theorem RO.pos {m : Nat} (hm : 1 ≤ m) {v : V} {ds : List D} {fp : List Addr} (ro : RO T F H m v (.list ds) fp) : ∃ m' a vs fq, m = m' + 1 ∧ v = .ref a ∧ fp = a :: fq ∧ H a = some (.lst vs) ∧ F a = none ∧ ROs T F H m' vs ds fq := by
  cases ro with
  | frz => omega
  | sc h => cases h
  | list h1 h2 h3 => exact ⟨_, _, _, _, rfl, rfl, rfl, h1, h2, h3⟩
theorem io_lv {i : Nat} {x : Nat} (r : Rel T W ia F H σ ρ g fps) (h1 : 1 ≤ g.getD i 0) : ia = none ∨ i ≠ 0 ∨ min (g.getD i 0) (x + 1) = g.getD i 0 := by
  cases hia : ia with
  | none => exact .inl rfl
  | some b =>
    by_cases z : i = 0
    · subst z
      have := (r.iok b hia).2.2.1
      exact .inr (.inr (by omega))
    · exact .inr (.inl z)
theorem s_setix {i : Nat} {ix : E} : MS I T G c wf k N io lr (.setix i ix e) := by
  intro X sc Wx st g r ok hsc sx h
  simp only [chkS] at h
  split at h
  · rename_i x p exi p2 ex pos
    split at h
    · rename_i hc
      simp only [Bool.and_eq_true] at hc
      obtain ⟨hsl, hns⟩ := hc
      obtain ⟨⟨l, g1⟩, h1, h⟩ := bind_some h
      obtain ⟨⟨lx, g2⟩, h2, h⟩ := bind_some h
      split at h
      · rename_i h3
        cases h
        dsimp only at h3
        obtain ⟨pv, hl⟩ := slot_of ok hsc (pos := p) hsl
        have c1 := le_all I N io e h1
        have c2 := le_all I N io ix h2
        have pe := (me_all I T G c k N io e ok hsc h1).1
        have pi := s_low (me_all I T G c k N io ix ok hsc h2).1
        refine PS.of (ps_asg pe (pg_sub pv pi set_list (by cases exi <;> first | (intro _; rfl) | (simp [noSlice] at hns; done))) (by cases ex <;> rfl) (by cases ex <;> rfl) rfl) ?_
        rintro D σ H ⟨W, ia, F, ρ, fps, hi, r, q⟩
        have e1 : run G c wf (.setix i ix e) ρ = (ev G c e ρ).out fun (v, ρ1) => (getV ρ1 i).out fun _ => (ev G c ix ρ1).out fun (j, ρ2) => (getV ρ2 i).out fun l => (setIx l j v).out fun l' => .nx (ρ2.set i (some l')) := by simp only [run]
        rw [e1] at q
        refine ⟨W, ia, F, ρ, fps, hi, r, rd_out q fun dv ρ1 q => ?_⟩
        intro v F1 H1 fps1 fp r1 p1 o1 n1
        have q : SPost T Wx lr W ia ⟨g2.set i (min (g2.getD i 0) (l + 1)), topL g, topL g⟩ F H σ D ((getV ρ1 i).out fun _ => (ev G c ix ρ1).out fun (j, ρ2) => (getV ρ2 i).out fun l => (setIx l j dv).out fun l' => .nx (ρ2.set i (some l'))) := q
        rcases q.out with ⟨d0, e2, q⟩ | ⟨kk, w, e2, _⟩
        · obtain ⟨vo, hσ, _⟩ := r1.slot i d0 (getV_ok e2)
          refine ⟨vo, hσ, addW W fp, ia, F1, ρ1, fps1, hi, r1.hold n1, ?_⟩
          rcases q.out with ⟨⟨dj, ρ2⟩, e3, q⟩ | ⟨kk, w, e3, q⟩
          · rw [e3]
            intro jv F2 H2 fps2 fpj r2 p2 o2 n2
            have q : SPost T Wx lr W ia ⟨g2.set i (min (g2.getD i 0) (l + 1)), topL g, topL g⟩ F H σ D ((getV ρ2 i).out fun l => (setIx l dj dv).out fun l' => .nx (ρ2.set i (some l'))) := q
            rcases q.out with ⟨dl, e4, q⟩ | ⟨kk, w, e4, _⟩
            · rcases q.out with ⟨dl', e5, q⟩ | ⟨kk, w, e5, _⟩
              · have hset := setIx_of e5
                obtain ⟨xs, n, kx, rfl, rfl, hix, rfl⟩ := hset
                have hl2 : i < g2.length := by rw [c2.len, c1.len]; exact hl
                obtain ⟨F3, fp3, r3, p3, s3⟩ := r2.weakSlot (j := min (g2.getD i 0) (l + 1)) hl2 (Nat.min_le_left _ _) (io_lv r2 h3)
                obtain ⟨vo', hσ', ro⟩ := r3.slot i _ (getV_ok e4)
                rw [hσ] at hσ'; cases hσ'
                have lv : (g2.set i (min (g2.getD i 0) (l + 1))).getD i 0 = min (g2.getD i 0) (l + 1) := by rw [getD_set g2 hl2, if_pos rfl]
                have ro' : RO T F3 H2 (min (g2.getD i 0) (l + 1)) vo (.list xs) fp3 := by rw [lv, setF_same] at ro; exact ro
                obtain ⟨m', a, vs, fq, em, rfl, rfl, hHa, hFa, ros⟩ := ro'.pos (by omega)
                have o3 : RO T F3 H2 l v dv fp := (o1.stab p2.f (n1.here p2)).stab p3.f fun b mb => ⟨rfl, p3.n b (.inr mb) (n1.here p2 b mb).2⟩
                have n3 : New W F3 H2 (setF fps2 i (a :: fq)) fp := n1.stay (p2.trans p3) r3
                obtain ⟨F4, fp4, r4, p4, n4, o4⟩ := (r3.monoW fun _ => addW_l).weakNew n3 o3 (show m' ≤ l by omega)
                have hfq : ∀ b ∈ fq, F4 b = none := fun b mb => (r4.own i b (by rw [setF_same]; exact List.mem_cons_of_mem _ mb)).2.1
                have ros4 := ros.stab (H' := H2) p4.f fun b mb => ⟨rfl, hfq b mb⟩
                have ha4 : F4 a = none := (r4.own i a (by rw [setF_same]; exact List.mem_cons_self)).2.1
                have hndi : (a :: fq).Nodup := by have := r4.nd i; rw [setF_same] at this; exact this
                have disj : ∀ b ∈ fp4, b ∉ a :: fq := fun b mb z => (n4.ok b mb).2.1 i (by rw [setF_same]; exact z)
                obtain ⟨fp5, ros5, nd5, sub5⟩ := ros4.set o4 kx (List.nodup_append.mpr ⟨(List.nodup_cons.mp hndi).2, n4.nd, fun x mx y my e => disj y my (by rw [← e]; exact List.mem_cons_of_mem _ mx)⟩)
                have ha5 : a ∉ fp5 := fun z => (sub5 a z).elim (List.nodup_cons.mp hndi).1 fun z => disj a z List.mem_cons_self
                have f5 : ∀ b ∈ fp5, F4 b = none := fun b mb => (sub5 b mb).elim (hfq b) fun z => (n4.ok b z).2.2.2
                cases (o2.zero)
                have hlen := ros.length
                refine ⟨a, vs, n, kx, rfl, rfl, hHa, by rw [hlen]; exact hix, ?_⟩
                have rt := r4.turn (u := .lst (vs.set kx v)) (d' := .list (xs.set kx dv)) (fp' := a :: fp5) hσ (by rw [setF_same]; exact List.mem_cons_self) (by
                    rw [lv, em]
                    exact .list upd_same ha4 (ros5.stab (Le.refl _) fun b mb => ⟨upd_ne fun z => ha5 (z ▸ mb), f5 b mb⟩)) (List.nodup_cons.mpr ⟨ha5, nd5⟩) (fun b mb => ?_) fun b eb ei => ?_
                · have hw : ¬ W a := (r4.own i a (by rw [setF_same]; exact List.mem_cons_self)).2.2
                  exact q σ F4 _ _ rt ((((p1.trans (p2.mono fun _ => addW_l)).trans (p3.mono fun _ => addW_l)).trans p4).trans (Pres.upd hw))
                · rw [setF_same]
                  rcases List.mem_cons.mp mb with rfl | mb
                  · exact .inl List.mem_cons_self
                  · rcases sub5 b mb with z | z
                    · exact .inl (List.mem_cons_of_mem _ z)
                    · exact .inr (n4.ok b z)
                · subst ei
                  obtain ⟨k1, k2, k3, _⟩ := r4.iok b eb
                  rw [setF_same] at k2
                  rw [lv, em] at k3
                  obtain rfl : m' = 0 := by omega
                  have hab : a = b := (List.cons.inj k2).1
                  rw [ros5.nil0, hab]
              · exact absurd e5 setIx_ex
            · exact absurd e4 getV_ex
          · rw [e3]; exact XPost.step (show XPost T W F H Wx σ kk w from q) p1 fun _ => addW_l
        · exact absurd e2 getV_ex
      · cases h
    · cases h
  · cases h
theorem s_app {i : Nat} : MS I T G c wf k N io lr (.app i e) := by
  intro X sc Wx st g r ok hsc sx h
  simp only [chkS] at h
  split at h
  · rename_i x p m apos ex cpos pos
    split at h
    · rename_i hc
      simp only [Bool.and_eq_true, decide_eq_true_eq] at hc
      obtain ⟨⟨⟨rfl, hline⟩, hsl⟩, hst⟩ := hc
      obtain ⟨⟨l, g1⟩, h1, h⟩ := bind_some h
      split at h
      · rename_i h3
        cases h
        dsimp only at h3
        obtain ⟨pv, hl⟩ := slot_of ok hsc (pos := p) hsl
        have c1 := le_all I N io e h1
        have pe := (me_all I T G c k N io e ok hsc h1).1
        refine PS.of (ps_expr (pe_bm PySem.F.plainAttrs_list PySem.F.slot_list_append PySem.F.type_list_append mt_append pv (pa_cons pe pa_nil (star_of hst)) rfl (by rw [star_of hst]; rfl) hline (star_of hst) rfl) rfl) ?_
        rintro D σ H ⟨W, ia, F, ρ, fps, hi, r, q⟩
        have e1 : run G c wf (.app i e) ρ = (getV ρ i).out fun l0 => if !isTy .list l0 then .bad else (ev G c e ρ).out fun (v, ρ1) => (getV ρ1 i).out fun l => (appD l v).out fun l' => .nx (ρ1.set i (some l')) := by simp only [run]
        rw [e1] at q
        rcases q.out with ⟨d0, e2, q⟩ | ⟨kk, w, e2, _⟩
        · by_cases hlist : isTy .list d0 = true
          · rw [if_neg (by rw [hlist]; decide)] at q
            obtain ⟨xs0, rfl⟩ := isList hlist
            obtain ⟨vo, hσ, ro0⟩ := r.slot i _ (getV_ok e2)
            have ro0 := ro0.here r.sub
            cases ro0 with
            | @list a0 vs0 _ hl0 hr0 =>
              refine ⟨_, hσ, .inl ⟨rfl, vs0, by rw [ok.hK]; exact hl0.sq⟩, W, ia, F, ρ, fps, hi, r, rd_out q fun dv ρ1 q => ?_⟩
              intro v F1 H1 fps1 fp r1 p1 o1 n1
              have q : SPost T Wx lr W ia ⟨g1.set i (min (g1.getD i 0) (l + 1)), topL g, topL g⟩ F H σ D ((getV ρ1 i).out fun l => (appD l dv).out fun l' => .nx (ρ1.set i (some l'))) := q
              rcases q.out with ⟨dl, e4, q⟩ | ⟨kk, w, e4, _⟩
              · rcases q.out with ⟨dl', e5, q⟩ | ⟨kk, w, e5, _⟩
                · have happ : ∃ xs, dl = .list xs ∧ xs.length < SZ ∧ dl' = .list (xs ++ [dv]) := by
                    unfold appD at e5
                    split at e5
                    · split at e5
                      · cases e5; exact ⟨_, rfl, by assumption, rfl⟩
                      · cases e5
                    · cases e5
                  obtain ⟨xs, rfl, hsz, rfl⟩ := happ
                  have hl2 : i < g1.length := by rw [c1.len]; exact hl
                  obtain ⟨F3, fp3, r3, p3, s3⟩ := (r1.hold n1).weakSlot (j := min (g1.getD i 0) (l + 1)) hl2 (Nat.min_le_left _ _) (io_lv r1 h3)
                  obtain ⟨vo', hσ', ro⟩ := r3.slot i _ (getV_ok e4)
                  rw [hσ] at hσ'; cases hσ'
                  have lv : (g1.set i (min (g1.getD i 0) (l + 1))).getD i 0 = min (g1.getD i 0) (l + 1) := by rw [getD_set g1 hl2, if_pos rfl]
                  have ro' : RO T F3 H1 (min (g1.getD i 0) (l + 1)) (.ref a0) (.list xs) fp3 := by rw [lv, setF_same] at ro; exact ro
                  obtain ⟨m', a, vs, fq, em, ea, rfl, hHa, hFa, ros⟩ := ro'.pos (by omega)
                  cases ea
                  have o3 : RO T F3 H1 l v dv fp := o1.stab p3.f fun b mb => ⟨rfl, p3.n b (.inr mb) (n1.ok b mb).2.2.2⟩
                  have n3 : New W F3 H1 (setF fps1 i (a0 :: fq)) fp := n1.stay p3 r3
                  obtain ⟨F4, fp4, r4, p4, n4, o4⟩ := (r3.monoW fun _ => addW_l).weakNew n3 o3 (show m' ≤ l by omega)
                  have hfq : ∀ b ∈ fq, F4 b = none := fun b mb => (r4.own i b (by rw [setF_same]; exact List.mem_cons_of_mem _ mb)).2.1
                  have ros4 := ros.stab (H' := H1) p4.f fun b mb => ⟨rfl, hfq b mb⟩
                  have ha4 : F4 a0 = none := (r4.own i a0 (by rw [setF_same]; exact List.mem_cons_self)).2.1
                  have hndi : (a0 :: fq).Nodup := by have := r4.nd i; rw [setF_same] at this; exact this
                  have disj : ∀ b ∈ fp4, b ∉ a0 :: fq := fun b mb z => (n4.ok b mb).2.1 i (by rw [setF_same]; exact z)
                  have ros5 : ROs T F4 H1 m' (vs ++ [v]) (xs ++ [dv]) (fq ++ fp4) := by
                    have := ros4.append (.cons o4 .nil)
                    simpa using this
                  have nd5 : (fq ++ fp4).Nodup := List.nodup_append.mpr ⟨(List.nodup_cons.mp hndi).2, n4.nd, fun x mx y my e => disj y my (by rw [← e]; exact List.mem_cons_of_mem _ mx)⟩
                  have sub5 : ∀ b ∈ fq ++ fp4, b ∈ fq ∨ b ∈ fp4 := fun b mb => List.mem_append.mp mb
                  have ha5 : a0 ∉ fq ++ fp4 := fun z => (sub5 a0 z).elim (List.nodup_cons.mp hndi).1 fun z => disj a0 z List.mem_cons_self
                  have f5 : ∀ b ∈ fq ++ fp4, F4 b = none := fun b mb => (sub5 b mb).elim (hfq b) fun z => (n4.ok b z).2.2.2
                  have hlen := ros.length
                  refine ⟨a0, vs, v, rfl, rfl, hHa, by rw [hlen]; have : sizeLine = SZ := sizeLine_eq; omega, ?_⟩
                  have rt := r4.turn (u := .lst (vs ++ [v])) (d' := .list (xs ++ [dv])) (fp' := a0 :: (fq ++ fp4)) hσ (by rw [setF_same]; exact List.mem_cons_self) (by
                      rw [lv, em]
                      exact .list upd_same ha4 (ros5.stab (Le.refl _) fun b mb => ⟨upd_ne fun z => ha5 (z ▸ mb), f5 b mb⟩)) (List.nodup_cons.mpr ⟨ha5, nd5⟩) (fun b mb => ?_) fun b eb ei => ?_
                  · have hw : ¬ W a0 := (r4.own i a0 (by rw [setF_same]; exact List.mem_cons_self)).2.2
                    exact q σ F4 _ _ rt (((p1.trans (p3.mono fun _ => addW_l)).trans p4).trans (Pres.upd hw))
                  · rw [setF_same]
                    rcases List.mem_cons.mp mb with rfl | mb
                    · exact .inl List.mem_cons_self
                    · rcases sub5 b mb with z | z
                      · exact .inl (List.mem_cons_of_mem _ z)
                      · exact .inr (n4.ok b z)
                  · subst ei
                    obtain ⟨k1, k2, k3, _⟩ := r4.iok b eb
                    rw [setF_same] at k2
                    rw [lv, em] at k3
                    obtain rfl : m' = 0 := by omega
                    have hab : a0 = b := (List.cons.inj k2).1
                    rw [ros5.nil0, hab]
                · exact absurd e5 appD_ex
              · exact absurd e4 getV_ex
          · rw [if_pos (by simpa using hlist)] at q; exact False.elim q
        · exact absurd e2 getV_ex
      · cases h
    · cases h
  · cases h
theorem ROs.cut : ∀ {m : Nat} {vs : List V} {ds : List D} {fp : List Addr} (j : Nat), ROs T F H m vs ds fp → ∃ fa fb, fp = fa ++ fb ∧ ROs T F H m (vs.take j) (ds.take j) fa ∧ ROs T F H m (vs.drop j) (ds.drop j) fb
  | _, _, _, _, 0, r => ⟨[], _, rfl, .nil, r⟩
  | _, _, _, _, j + 1, .nil => ⟨[], [], rfl, .nil, .nil⟩
  | _, _, _, _, j + 1, .cons (fp := fp) a r => by
    obtain ⟨fa, fb, rfl, h1, h2⟩ := ROs.cut j r
    exact ⟨fp ++ fa, fb, (List.append_assoc _ _ _).symm, .cons a h1, h2⟩
theorem insD_ex {a j v : D} {k : Nat} {w : D} : insD a j v ≠ .ex k w := by
  unfold insD
  split
  · split <;> simp
  · simp
theorem s_ins {i : Nat} {ix : E} : MS I T G c wf k N io lr (.ins i ix e) := by
  intro X sc Wx st g r ok hsc sx h
  simp only [chkS] at h
  split at h
  · rename_i x p m apos exi ex cpos pos
    split at h
    · rename_i hc
      simp only [Bool.and_eq_true, decide_eq_true_eq] at hc
      obtain ⟨⟨⟨⟨rfl, hline⟩, hsl⟩, hst1⟩, hst⟩ := hc
      obtain ⟨⟨lx, g1⟩, h1, h⟩ := bind_some h
      obtain ⟨⟨l, g2⟩, h2, h⟩ := bind_some h
      split at h
      · rename_i h3
        cases h
        dsimp only at h3
        obtain ⟨pv, hl⟩ := slot_of ok hsc (pos := p) hsl
        have c1 := le_all I N io ix h1
        have c2 := le_all I N io e h2
        have pi := s_low (me_all I T G c k N io ix ok hsc h1).1
        have pe := (me_all I T G c k N io e ok hsc h2).1
        refine PS.of (ps_expr (pe_bm PySem.F.plainAttrs_list PySem.F.slot_list_insert PySem.F.type_list_insert mt_insert pv (pa_cons pi (pa_cons pe pa_nil (star_of hst)) (star_of hst1)) rfl (by rw [star_of hst1, star_of hst]; rfl) hline (star_of hst1) (by rw [star_of hst]; rfl)) rfl) ?_
        rintro D σ H ⟨W, ia, F, ρ, fps, hi, r, q⟩
        have e1 : run G c wf (.ins i ix e) ρ = (getV ρ i).out fun l0 => if !isTy .list l0 then .bad else (ev G c ix ρ).out fun (j, ρ1) => (ev G c e ρ1).out fun (v, ρ2) => (getV ρ2 i).out fun l => (insD l j v).out fun l' => .nx (ρ2.set i (some l')) := by simp only [run]
        rw [e1] at q
        rcases q.out with ⟨d0, e2, q⟩ | ⟨kk, w, e2, _⟩
        · by_cases hlist : isTy .list d0 = true
          · rw [if_neg (by rw [hlist]; decide)] at q
            obtain ⟨xs0, rfl⟩ := isList hlist
            obtain ⟨vo, hσ, ro0⟩ := r.slot i _ (getV_ok e2)
            have ro0 := ro0.here r.sub
            cases ro0 with
            | @list a0 vs0 _ hl0 hr0 =>
              refine ⟨_, hσ, .inl ⟨rfl, vs0, by rw [ok.hK]; exact hl0.sq⟩, W, ia, F, ρ, fps, hi, r, rd_out q fun dj ρ1 q => ?_⟩
              intro jv F1 H1 fps1 fpj r1 p1 o1 n1
              have q : SPost T Wx lr W ia ⟨g2.set i (min (g2.getD i 0) (l + 1)), topL g, topL g⟩ F H σ D ((ev G c e ρ1).out fun (v, ρ2) => (getV ρ2 i).out fun l => (insD l dj v).out fun l' => .nx (ρ2.set i (some l'))) := q
              refine ⟨W, ia, F1, ρ1, fps1, hi, r1, ?_⟩
              rcases q.out with ⟨⟨dv, ρ2⟩, e3, q⟩ | ⟨kk, w, e3, q⟩
              · rw [e3]
                intro v F2 H2 fps2 fp r2 p2 o2 n2
                have q : SPost T Wx lr W ia ⟨g2.set i (min (g2.getD i 0) (l + 1)), topL g, topL g⟩ F H σ D ((getV ρ2 i).out fun l => (insD l dj dv).out fun l' => .nx (ρ2.set i (some l'))) := q
                rcases q.out with ⟨dl, e4, q⟩ | ⟨kk, w, e4, _⟩
                · rcases q.out with ⟨dl', e5, q⟩ | ⟨kk, w, e5, _⟩
                  · have happ : ∃ xs n, dl = .list xs ∧ dj = .int n ∧ (0 ≤ n ∧ n < 2 ^ 63) ∧ xs.length < SZ ∧ dl' = .list (xs.take n.toNat ++ [dv] ++ xs.drop n.toNat) := by
                      unfold insD at e5
                      split at e5
                      · split at e5
                        · rename_i hh
                          simp only [Bool.and_eq_true, decide_eq_true_eq] at hh
                          cases e5; exact ⟨_, _, rfl, rfl, hh.1, hh.2, rfl⟩
                        · cases e5
                      · cases e5
                    obtain ⟨xs, n, rfl, rfl, hn, hsz, rfl⟩ := happ
                    cases (o1.zero)
                    have hl2 : i < g2.length := by rw [c2.len, c1.len]; exact hl
                    obtain ⟨F3, fp3, r3, p3, s3⟩ := (r2.hold n2).weakSlot (j := min (g2.getD i 0) (l + 1)) hl2 (Nat.min_le_left _ _) (io_lv r2 h3)
                    obtain ⟨vo', hσ', ro⟩ := r3.slot i _ (getV_ok e4)
                    rw [hσ] at hσ'; cases hσ'
                    have lv : (g2.set i (min (g2.getD i 0) (l + 1))).getD i 0 = min (g2.getD i 0) (l + 1) := by rw [getD_set g2 hl2, if_pos rfl]
                    have ro' : RO T F3 H2 (min (g2.getD i 0) (l + 1)) (.ref a0) (.list xs) fp3 := by rw [lv, setF_same] at ro; exact ro
                    obtain ⟨m', a, vs, fq, em, ea, rfl, hHa, hFa, ros⟩ := ro'.pos (by omega)
                    cases ea
                    have o3 : RO T F3 H2 l v dv fp := o2.stab p3.f fun b mb => ⟨rfl, p3.n b (.inr mb) (n2.ok b mb).2.2.2⟩
                    have n3 : New W F3 H2 (setF fps2 i (a0 :: fq)) fp := n2.stay p3 r3
                    obtain ⟨F4, fp4, r4, p4, n4, o4⟩ := (r3.monoW fun _ => addW_l).weakNew n3 o3 (show m' ≤ l by omega)
                    have hfq : ∀ b ∈ fq, F4 b = none := fun b mb => (r4.own i b (by rw [setF_same]; exact List.mem_cons_of_mem _ mb)).2.1
                    have ros4 := ros.stab (H' := H2) p4.f fun b mb => ⟨rfl, hfq b mb⟩
                    have ha4 : F4 a0 = none := (r4.own i a0 (by rw [setF_same]; exact List.mem_cons_self)).2.1
                    have hndi : (a0 :: fq).Nodup := by have := r4.nd i; rw [setF_same] at this; exact this
                    have disj : ∀ b ∈ fp4, b ∉ a0 :: fq := fun b mb z => (n4.ok b mb).2.1 i (by rw [setF_same]; exact z)
                    obtain ⟨fa, fb, efq, ca, cb⟩ := ros4.cut n.toNat
                    have ros5 : ROs T F4 H2 m' (vs.take n.toNat ++ [v] ++ vs.drop n.toNat) (xs.take n.toNat ++ [dv] ++ xs.drop n.toNat) (fa ++ (fp4 ++ []) ++ fb) := (ca.append (.cons o4 .nil)).append cb
                    rw [List.append_nil] at ros5
                    have nd5 : (fa ++ fp4 ++ fb).Nodup := by
                      have h1 : (fq ++ fp4).Nodup := List.nodup_append.mpr ⟨(List.nodup_cons.mp hndi).2, n4.nd, fun x mx y my e => disj y my (by rw [← e]; exact List.mem_cons_of_mem _ mx)⟩
                      rw [efq] at h1
                      refine (List.Perm.nodup_iff ?_).mp h1
                      rw [List.append_assoc, List.append_assoc]
                      exact List.Perm.append_left fa List.perm_append_comm
                    have sub5 : ∀ b ∈ fa ++ fp4 ++ fb, b ∈ fq ∨ b ∈ fp4 := fun b mb => by
                      rw [efq]
                      simp only [List.mem_append] at mb ⊢
                      rcases mb with (z | z) | z
                      · exact .inl (.inl z)
                      · exact .inr z
                      · exact .inl (.inr z)
                    have ha5 : a0 ∉ fa ++ fp4 ++ fb := fun z => (sub5 a0 z).elim (List.nodup_cons.mp hndi).1 fun z => disj a0 z List.mem_cons_self
                    have f5 : ∀ b ∈ fa ++ fp4 ++ fb, F4 b = none := fun b mb => (sub5 b mb).elim (hfq b) fun z => (n4.ok b z).2.2.2
                    have hlen := ros.length
                    refine ⟨a0, vs, n, v, rfl, rfl, hHa, by rw [hlen]; have : sizeLine = SZ := sizeLine_eq; omega, hn.1, hn.2, ?_⟩
                    have rt := r4.turn (u := .lst (vs.take n.toNat ++ [v] ++ vs.drop n.toNat)) (d' := .list (xs.take n.toNat ++ [dv] ++ xs.drop n.toNat)) (fp' := a0 :: (fa ++ fp4 ++ fb)) hσ (by rw [setF_same]; exact List.mem_cons_self) (by
                        rw [lv, em]
                        exact .list upd_same ha4 (ros5.stab (Le.refl _) fun b mb => ⟨upd_ne fun z => ha5 (z ▸ mb), f5 b mb⟩)) (List.nodup_cons.mpr ⟨ha5, nd5⟩) (fun b mb => ?_) fun b eb ei => ?_
                    · have hw : ¬ W a0 := (r4.own i a0 (by rw [setF_same]; exact List.mem_cons_self)).2.2
                      exact q σ F4 _ _ rt ((((p1.trans p2).trans (p3.mono fun _ => addW_l)).trans p4).trans (Pres.upd hw))
                    · rw [setF_same]
                      rcases List.mem_cons.mp mb with rfl | mb
                      · exact .inl List.mem_cons_self
                      · rcases sub5 b mb with z | z
                        · exact .inl (List.mem_cons_of_mem _ z)
                        · exact .inr (n4.ok b z)
                    · subst ei
                      obtain ⟨k1, k2, k3, _⟩ := r4.iok b eb
                      rw [setF_same] at k2
                      rw [lv, em] at k3
                      obtain rfl : m' = 0 := by omega
                      have hab : a0 = b := (List.cons.inj k2).1
                      have hq0 : fa ++ fp4 ++ fb = [] := ros5.nil0
                      rw [hq0, hab]
                  · exact absurd e5 insD_ex
                · exact absurd e4 getV_ex
              · rw [e3]; exact XPost.step (show XPost T W F H Wx σ kk w from q) p1 fun _ => id
          · rw [if_pos (by simpa using hlist)] at q; exact False.elim q
        · exact absurd e2 getV_ex
      · cases h
    · cases h
  · cases h
end
end Fh
end
section
set_option maxRecDepth 100000
set_option maxHeartbeats 2000000
/-! Statements: an append deep in a thing that is then forgotten; all statements. -/
namespace Fh
open PySem PySem.Spec PyProof.Rows L2

section
variable {I : Info} {T : Tb} {G : Nat → R D} {c : Callee} {wf : Nat} {k : Nat} {N : List Str} {io : Bool} {lr : Nat} {X : Cx} {sc : Scope} {Wx : WX} {g g' g1 : Lv} {ex : Expr} {e : E} {es : Es} {W : Addr → Prop} {ia : Option Addr} {F F1 F' H H1 H' : Hp} {σ σ1 : L2.St} {l : Nat} {ρ : DEnv} {fps : Nat → List Addr} {r r' : LR} {o : Out}

def stepD : D → Int → Option D
  | .list xs, i => at? xs i
  | .tup xs, i => at? xs i
  | _, _ => none
def dAt : D → List Int → Option D
  | d, [] => some d
  | d, i :: p => (stepD d i).bind fun d' => dAt d' p
theorem dAt_snoc : ∀ {p : List Int} {d : D} {j : Int}, dAt d (p ++ [j]) = (dAt d p).bind fun d' => stepD d' j
  | [], d, j => by simp [dAt]
  | i :: p, d, j => by
    simp only [List.cons_append, dAt]
    cases stepD d i with
    | none => rfl
    | some d' => exact dAt_snoc
theorem pathOk_of : ∀ {p : List Int} {d : D}, pathOk d p = true → ∃ xs, dAt d p = some (.list xs) ∧ xs.length < SZ
  | [], .list xs, h => ⟨xs, rfl, of_decide_eq_true h⟩
  | i :: p, .list xs, h => by
    have h : (match at? xs i with | some d => pathOk d p | none => false) = true := h
    cases e : at? xs i with
    | none => rw [e] at h; cases h
    | some d =>
      rw [e] at h
      obtain ⟨ys, h1, h2⟩ := pathOk_of h
      exact ⟨ys, by simp only [dAt, stepD, e, Option.bind_some]; exact h1, h2⟩
  | i :: p, .tup xs, h => by
    have h : (match at? xs i with | some d => pathOk d p | none => false) = true := h
    cases e : at? xs i with
    | none => rw [e] at h; cases h
    | some d =>
      rw [e] at h
      obtain ⟨ys, h1, h2⟩ := pathOk_of h
      exact ⟨ys, by simp only [dAt, stepD, e, Option.bind_some]; exact h1, h2⟩
  | [], .non, h | [], .bool _, h | [], .int _, h | [], .str _, h | [], .tup _, h | [], .dict _ _, h | [], .fn _, h | [], .cls _, h => by cases h
  | _ :: _, .non, h | _ :: _, .bool _, h | _ :: _, .int _, h | _ :: _, .str _, h | _ :: _, .dict _ _, h | _ :: _, .fn _, h | _ :: _, .cls _, h => by cases h
theorem ROs.nth : ∀ {m : Nat} {vs : List V} {ds : List D} {fp : List Addr} {j : Nat} {d : D}, ROs T F H m vs ds fp → ds[j]? = some d → ∃ v fp', vs[j]? = some v ∧ RO T F H m v d fp' ∧ ∀ b ∈ fp', b ∈ fp
  | _, _, _, _, _, _, .nil, h => by simp at h
  | _, _, _, _, 0, _, .cons r s, h => by
    simp at h; subst h
    exact ⟨_, _, rfl, r, fun b m => List.mem_append_left _ m⟩
  | _, _, _, _, j + 1, _, .cons r s, h => by
    obtain ⟨v, fp', h1, h2, h3⟩ := ROs.nth (j := j) s (by simpa using h)
    exact ⟨v, fp', by simpa using h1, h2, fun b m => List.mem_append_right _ (h3 b m)⟩
theorem ROs.at {m : Nat} {vs : List V} {ds : List D} {fp : List Addr} {i : Int} {d : D} (r : ROs T F H m vs ds fp) (h : at? ds i = some d) : ∃ v fp', at? vs i = some v ∧ RO T F H m v d fp' ∧ ∀ b ∈ fp', b ∈ fp := by
  have hl := r.length
  unfold at? at h ⊢
  split at h
  · rename_i h0
    rw [if_pos h0]
    exact r.nth h
  · rename_i h0
    rw [if_neg h0]
    split at h
    · rename_i h1
      rw [if_pos (by rw [hl]; exact h1), hl]
      exact r.nth h
    · cases h
def tPath (K : PySem.W.Frag) (i : Nat) : List Int → TE
  | [] => tVar i
  | j :: rp => tOp (rIx K) (tPath K i rp) (fun _ H Q => Q (.int j) H)
theorem mono_path {K : PySem.W.Frag} {i : Nat} : ∀ {rp : List Int}, Mono (tPath K i rp)
  | [] => mono_var
  | j :: rp => fun σ H Q Q' m q => mono_path (rp := rp) σ H _ _ (fun v H' z => by
      rcases z with ⟨p, xs, i, w, a, b, c, d, z⟩ | ⟨p, xs, i, w, a, b, c, d, z⟩ | ⟨p, i, w, a, b, c, d, z⟩
      · exact .inl ⟨p, xs, i, w, a, b, c, d, m _ _ z⟩
      · exact .inr (.inl ⟨p, xs, i, w, a, b, c, d, m _ _ z⟩)
      · exact .inr (.inr ⟨p, i, w, a, b, c, d, m _ _ z⟩)) q
theorem path_pe (ok : Ok I T G c k N Wx X) (hsc : X.env.scope = sc) {i : Nat} {x : Str} (hs : slotOk N sc g i x = true) : ∀ {rp : List Int} {o : Expr}, pathE sc x rp o = true → PE X o (tPath X.K i rp) ∧ noBare o = true
  | [], o, h => by
    cases o <;> first | (simp [pathE] at h; done) | skip
    rename_i y p
    simp only [pathE, decide_eq_true_eq] at h
    subst h
    exact ⟨(slot_of ok hsc hs).1, rfl⟩
  | j :: rp, o, h => by
    cases o <;> first | (simp [pathE] at h; done) | skip
    rename_i o' sl p
    cases sl <;> first | (simp [pathE] at h; done) | skip
    rename_i cc kk p2
    cases cc <;> first | (simp [pathE] at h; done) | skip
    rename_i z
    simp only [pathE, Bool.and_eq_true, decide_eq_true_eq] at h
    obtain ⟨rfl, h2⟩ := h
    obtain ⟨k1, _⟩ := path_pe ok hsc hs h2
    exact ⟨pe_ix ix_seq k1 pe_int (fun _ _ => rfl), rfl⟩
/-- the way through what is owned -/
theorem path_walk {K : PySem.W.Frag} {i : Nat} {v0 : V} {d0 : D} {fp0 : List Addr} {lv : Nat} (hσ : σ[i]? = some (some v0)) (ro : RO T F H lv v0 d0 fp0) : ∀ {rp : List Int} {d : D}, dAt d0 rp.reverse = some d → rp.length + 1 ≤ lv →
    ∃ v fp, (∀ Q : VK, Q v H → tPath K i rp σ H Q) ∧ RO T F H (lv - rp.length) v d fp ∧ ∀ b ∈ fp, b ∈ fp0
  | [], d, h, _ => by
    simp [dAt] at h
    subst h
    exact ⟨v0, fp0, fun Q q => ⟨v0, hσ, q⟩, ro, fun b m => m⟩
  | j :: rp, d, h, hl => by
    rw [List.reverse_cons, dAt_snoc] at h
    cases e : dAt d0 rp.reverse with
    | none => rw [e] at h; cases h
    | some d1 =>
      rw [e] at h
      have h : stepD d1 j = some d := h
      simp only [List.length_cons] at hl
      obtain ⟨v1, fp1, k1, k2, k3⟩ := path_walk (K := K) hσ ro e (by omega)
      obtain ⟨n, hn⟩ : ∃ n, lv - rp.length = n + 2 := ⟨lv - rp.length - 2, by omega⟩
      rw [hn] at k2
      have e2 : lv - (j :: rp).length = n + 1 := by simp only [List.length_cons]; omega
      rw [e2]
      cases k2 with
      | sc hs _ => cases d1 <;> first | (cases hs; done) | (cases h; done)
      | @list _ a vs ds fp ha hF hr =>
        obtain ⟨v, fp', z1, z2, z3⟩ := hr.at (show at? ds j = some d from h)
        refine ⟨v, fp', fun Q q => k1 _ (.inl ⟨a, vs, j, v, rfl, rfl, .inl (.inl ha), at_eq z1, q⟩), z2, fun b m => k3 b (List.mem_cons_of_mem _ (z3 b m))⟩
      | @tup _ a vs ds fp ha hF hr =>
        obtain ⟨v, fp', z1, z2, z3⟩ := hr.at (show at? ds j = some d from h)
        refine ⟨v, fp', fun Q q => k1 _ (.inr (.inl ⟨a, vs, j, v, rfl, rfl, .inl (.inl ha), at_eq z1, q⟩)), z2, fun b m => k3 b (List.mem_cons_of_mem _ (z3 b m))⟩
      | dict => cases h
theorem attr_base {o : Expr} {nm : Str} (h : noBare o = true) : attributeBase o nm X.env (eval o X.env) = eval o X.env := by
  unfold attributeBase
  cases o <;> first | rfl | skip
  rename_i f args kws p
  cases f <;> first | rfl | skip
  cases args <;> first | rfl | skip
  cases kws <;> first | rfl | (simp [noBare] at h; done)
theorem const_pe {d : D} {cc : Const} {kk : Nat} {p : Pos} (h : constP d cc = true) : ∃ v, PE X (.Constant cc kk p) (fun _ H Q => Q v H) := by
  cases d <;> cases cc <;> first | (simp [constP] at h; done) | skip
  · exact ⟨_, pe_non⟩
  · exact ⟨_, pe_bl⟩
  · exact ⟨_, pe_int⟩
  · exact ⟨_, pe_str⟩
theorem s_spoil {i : Nat} {p : List Int} : MS I T G c wf k N io lr (.spoil i p e) := by
  intro X sc Wx st g r ok hsc sx h
  simp only [chkS] at h
  split at h
  · rename_i o m apos ex cpos pos
    split at h
    · rename_i d cc kk cp
      cases hNx : N[i]? with
      | none => simp [hNx] at h
      | some x =>
        simp only [hNx] at h
        split at h
        · rename_i hc
          cases h
          simp only [Bool.and_eq_true, decide_eq_true_eq] at hc
          obtain ⟨⟨⟨⟨⟨⟨h1, rfl⟩, hline⟩, hpath⟩, hlv⟩, hio⟩, hne⟩ := hc
          obtain ⟨po, hb⟩ := path_pe ok hsc hpath.1 hpath.2
          obtain ⟨_, hl⟩ := slot_of ok hsc (pos := pos) hpath.1
          obtain ⟨w, pc⟩ := const_pe (X := X) (kk := kk) (p := cp) h1
          refine PS.of (ps_expr (pe_bm PySem.F.plainAttrs_list PySem.F.slot_list_append PySem.F.type_list_append mt_append po (pa_cons pc pa_nil rfl) (attr_base hb) rfl hline rfl rfl) rfl) ?_
          rintro D σ H ⟨W, ia, F, ρ, fps, hi, r, q⟩
          have e1 : run G c wf (.spoil i p (.cst d)) ρ = (getV ρ i).out fun l => if pathOk l p then .nx (ρ.set i none) else .bad := by simp only [run]
          rw [e1] at q
          rcases q.out with ⟨d0, e2, q⟩ | ⟨kk, w, e2, _⟩
          · by_cases hok : pathOk d0 p = true
            · rw [if_pos hok] at q
              obtain ⟨xs, hat, hsz⟩ := pathOk_of hok
              obtain ⟨v0, hσ, ro⟩ := r.slot i d0 (getV_ok e2)
              obtain ⟨v, fp, k1, k2, k3⟩ := path_walk (K := X.K) (rp := p.reverse) hσ ro (by rw [List.reverse_reverse]; exact hat) (by rw [List.length_reverse]; exact hlv)
              obtain ⟨m', a, vs, fq, em, rfl, rfl, hHa, hFa, ros⟩ := k2.pos (by rw [List.length_reverse]; omega)
              refine k1 _ ⟨.inl ⟨rfl, vs, .inl (.inl hHa)⟩, a, vs, w, rfl, rfl, hHa, by rw [ros.length]; have : sizeLine = SZ := sizeLine_eq; omega, ?_⟩
              have ha := k3 a List.mem_cons_self
              exact q σ F _ _ (r.drop ha (io_of hi (ne_io io hio)) hl) (Pres.upd (r.own i a ha).2.2)
            · rw [if_neg hok] at q; exact False.elim q
          · exact absurd e2 getV_ex
        · cases h
    · cases h
  · cases h

/-- a slot's thing given away -/
theorem Rel.give (r : Rel T W ia F H σ ρ g fps) {i : Nat} (hi : ia = none ∨ i ≠ 0) : Rel T W ia F H σ (ρ.set i none) g (setF fps i []) ∧ New W F H (setF fps i []) (fps i) := by
  refine ⟨⟨by rw [List.length_set]; exact r.len, r.sub, fun j d e => ?_, fun j b m => ?_, fun j => ?_, fun j j2 b m1 m2 => ?_, r.held, fun b e => ?_⟩, r.nd i, fun a m => ?_⟩
  · by_cases hj : j = i
    · subst hj
      rw [List.getElem?_set_self'] at e
      cases hρ : ρ[j]? with
      | none => rw [hρ] at e; cases e
      | some o => rw [hρ] at e; cases e
    · rw [List.getElem?_set_ne (Ne.symm hj)] at e
      rw [setF_ne hj]
      exact r.slot j d e
  · by_cases hj : j = i
    · subst hj; rw [setF_same] at m; simp at m
    · rw [setF_ne hj] at m; exact r.own j b m
  · by_cases hj : j = i
    · subst hj; rw [setF_same]; exact List.nodup_nil
    · rw [setF_ne hj]; exact r.nd j
  · by_cases hj : j = i
    · subst hj; rw [setF_same] at m1; simp at m1
    · by_cases hk : j2 = i
      · subst hk; rw [setF_same] at m2; simp at m2
      · rw [setF_ne hj] at m1; rw [setF_ne hk] at m2; exact r.dj j j2 b m1 m2
  · have h0 : (0 : Nat) ≠ i := by
      rcases hi with z | z
      · rw [z] at e; cases e
      · exact Ne.symm z
    obtain ⟨h1, h2, h3, d0, h4⟩ := r.iok b e
    exact ⟨h1, by rw [setF_ne h0]; exact h2, h3, d0, by rw [List.getElem?_set_ne (Ne.symm h0)]; exact h4⟩
  · obtain ⟨h1, h2, h3⟩ := r.own i a m
    refine ⟨h3, fun j z => ?_, h1, h2⟩
    by_cases hj : j = i
    · subst hj; rw [setF_same] at z; simp at z
    · rw [setF_ne hj] at z; exact hj (r.dj i j a m z).symm
theorem s_retv {i : Nat} : MS I T G c wf k N io lr (.retv i) := by
  intro X sc Wx st g r ok hsc sx h
  simp only [chkS] at h
  split at h
  · rename_i x p pos
    split at h
    · rename_i hc
      cases h
      simp only [Bool.and_eq_true, decide_eq_true_eq] at hc
      obtain ⟨⟨hs, hio⟩, hl⟩ := hc
      obtain ⟨pv, _⟩ := slot_of ok hsc (pos := p) hs
      refine PS.of (ps_ret pv) ?_
      rintro D σ H ⟨W, ia, F, ρ, fps, hi, r, q⟩
      have e1 : run G c wf (.retv i) ρ = (getV ρ i).out fun d => .rt d (ρ.set i none) := by simp only [run]
      rw [e1] at q
      rcases q.out with ⟨d, e2, q⟩ | ⟨kk, w, e2, _⟩
      · obtain ⟨v, hσ, ro⟩ := r.slot i d (getV_ok e2)
        obtain ⟨r2, n2⟩ := r.give (io_of hi (ne_io io hio))
        obtain ⟨F3, fp3, r3, p3, n3, o3⟩ := r2.weakNew n2 ro hl
        exact ⟨v, hσ, q v σ F3 H _ fp3 g r3 p3 o3 n3⟩
      · exact absurd e2 getV_ex
    · cases h
  · cases h
mutual
theorem ms_all (I : Info) (T : Tb) (G : Nat → R D) (c : Callee) (wf : Nat) (k : Nat) (N : List Str) (io : Bool) (lr : Nat) : ∀ s, MS I T G c wf k N io lr s
  | .asg _ _ => s_asg
  | .asgT _ _ => s_asgT
  | .par _ _ => s_par
  | .setix _ _ _ => s_setix
  | .app _ _ => s_app
  | .ins _ _ _ => s_ins
  | .spoil _ _ _ => s_spoil
  | .exp _ => s_exp
  | .ite _ a b => s_ite (mss_all I T G c wf k N io lr a) (mss_all I T G c wf k N io lr b)
  | .whl _ b => s_whl (mss_all I T G c wf k N io lr b)
  | .for_ _ _ b => s_for (mss_all I T G c wf k N io lr b)
  | .ret _ => s_ret
  | .retv _ => s_retv
  | .pass => s_pass
  | .brk => s_brk
  | .cnt => s_cnt
  | .never => s_never
theorem mss_all (I : Info) (T : Tb) (G : Nat → R D) (c : Callee) (wf : Nat) (k : Nat) (N : List Str) (io : Bool) (lr : Nat) : ∀ ss, MSs I T G c wf k N io lr ss
  | .nil => ss_nil
  | .cons s ss => ss_cons (ms_all I T G c wf k N io lr s) (mss_all I T G c wf k N io lr ss)
end
end
end Fh
end
section
set_option maxRecDepth 100000
set_option maxHeartbeats 2000000
/-! A text's defs by the evaluator. -/
namespace Fh
open PySem PySem.Spec PyProof.Rows L2

/-- a def of the text: its syntax, name, names, parameters, the keywords that calls use, its form in the small language -/
structure DF where
  st : Stmt
  x : Str
  N : List Str
  ps : List Str
  kws : List (List Str)
  fd : FD
def infoOf (dfs : List DF) (gls : List (Str × D)) : Info := ⟨fun f => dfs[f]?.map fun d => (d.x, d.fd), fun f => match dfs[f]? with | some d => d.kws | none => [], fun g => gls[g]?.map (·.1)⟩
def progOf (dfs : List DF) : Nat → Option FD := fun f => dfs[f]?.map (·.fd)
def globOf (gls : List (Str × D)) : Nat → R D := fun g => match gls[g]? with | some p => .ok p.2 | none => .bad
def lv0 (fd : FD) : Lv := (if fd.io then [1] else []) ++ List.replicate (fd.np - (if fd.io then 1 else 0)) 0 ++ List.replicate (fd.ns - fd.np) 9
def scopeOk (N P : List Str) (sc : Scope) : Bool := (match sc.kind with | .function => true | _ => false) && !sc.isCoroutine && !sc.isGenerator && decide N.Nodup && decide (N.take P.length = P) &&
  (P.all fun x => looksK sc x .local || looksK sc x .cell) && sc.names.all fun y => !(y.2 == .free)
theorem scopeOk_of {N P : List Str} {sc : Scope} (h : scopeOk N P sc = true) : FnScope N P sc := by
  unfold scopeOk at h
  simp only [Bool.and_eq_true, Bool.not_eq_true', decide_eq_true_eq, List.all_eq_true, Bool.or_eq_true] at h
  obtain ⟨⟨⟨⟨⟨⟨h1, h2⟩, h3⟩, h4⟩, h5⟩, h6⟩, h7⟩ := h
  refine ⟨?_, h2, h3, h4, h5, fun x m => ?_, fun y m e => ?_⟩
  · split at h1
    · assumption
    · cases h1
  · have := h6 x m
    unfold looksK at this
    simpa using this
  · have := h7 y m
    rw [e] at this
    cases this
def dfOk (I : Info) (d : DF) : Bool := scopeOk d.N d.ps (defScope d.st) && decide (d.ps.length = d.fd.np) && decide (d.N.length = d.fd.ns) && decide (d.fd.np ≤ d.fd.ns) && (!d.fd.io || decide (1 ≤ d.fd.np)) &&
  (chkSs I d.N d.fd.io (if d.fd.scal then 0 else d.fd.lv) (defScope d.st) d.fd.body (defBody d.st) (lv0 d.fd)).isSome

theorem zip_fst {α β : Type} : ∀ (xs : List α) (us : List β), (xs.zip us).map (·.1) = xs.take us.length
  | [], us => by simp
  | x :: xs, [] => by simp
  | x :: xs, u :: us => by simp [zip_fst xs us]
theorem FnG.ofD {P : Program} {w : World} {K : PySem.W.Frag} {mg : Str → Option Value} {base : Heap} {k : Nat} {x qual : Str} {params : Arguments} {body : List Stmt} {scope : Scope} {f : Addr} {fd : FuncData} {N ps : List Str} {sp : Sp}
    (F : FunD K x qual params body scope [] [] f fd) (S : FnScope N ps scope) (len : ∀ vs H Q E, sp vs H Q E → vs.length = ps.length)
    (hbody : ∀ (cdv : Value) (A : Around) (outer : List PySem.Env) (s : Shared) (H : Hp) (vs : List V) (Q : VK) (E : XK),
      (A.deeper (envOfC qual scope s.heap.objs.size f cdv)).guards = some [] → Room k (A.deeper (envOfC qual scope s.heap.objs.size f cdv)) → sp vs H Q E →
      ∃ t, PSs (cxOf (L2.CX P w) P w K mg base N qual scope f cdv A outer s H E) body t ∧ t { nx := fun _ H' => Q .non H', rt := Q } (L2.start N vs) H) :
    FnG P w K mg base (k + 1) f fd ps sp := by
  obtain ⟨oc, od, dV, kV, doc, pm, an, cdv, ct, osl, rfl, lk, hcd, _, _⟩ := F.ex
  refine ⟨len, ?_⟩
  intro A outer s H args us vs Q E hg hr e0 hb r hsp
  have up : ∀ b o, base.get? b = some o → s.heap.get? b = some o := fun b o e => (e0.bs b o e).1
  have KX : K.In s.heap := e0.mod.kin.keeps up
  have lim : s.heap.NoLimit := e0.mod.nolimit.keeps up
  obtain ⟨l', hb, hperm⟩ := hb
  have hnd : (l'.map (·.1)).Nodup := by
    refine (hperm.map (·.1)).nodup_iff.mpr ?_
    have h1 : ps.Nodup := by rw [← S.pre]; exact (List.take_sublist _ _).nodup S.nd
    refine List.Nodup.sublist ?_ h1
    have : (ps.zip us).map (·.1) = ps.take us.length := zip_fst _ _
    rw [this]; exact List.take_sublist _ _
  have hkind : ∀ y ∈ l', scope.names.lookup y.1 = some .local ∨ (scope.names.lookup y.1 = some .cell ∧ ((cellsFrom (s.heap.objs.size + 1) scope.names []).lookup y.1).isSome = true) := by
    rintro ⟨n, v⟩ hy
    cases S.par n (List.of_mem_zip (hperm.mem_iff.mp hy)).1 with
    | inl q => exact .inl q
    | inr q => exact .inr ⟨q, PySem.W.cellsFrom_some _ _ _ (.inl q)⟩
  refine codeAny_call_function hr.depth (KX _ _ lk) rfl S.co S.gen rfl (PySem.W.codeRec_of KX hcd) (hb _ _ _ _ ?_)
  refine wpAny_newFunctionEnv_cells S.kind hkind fun env he s1 x => ?_
  subst he
  rw [bindL_perm hperm hnd, bindC_perm hperm hnd] at x
  refine ⟨lim.keeps x.toInCall.keep, codeAny_func ?_⟩
  have gd : (A.deeper (envOfC qual scope s.heap.objs.size f cdv)).guards = some [] := hg
  obtain ⟨t, ht, hq⟩ := hbody cdv A outer s H vs Q E gd (hr.deeper _) hsp
  have I := inv_start (CX := L2.CX P w) (P := P) (w := w) (N := N) (E := E) (cd := cdv) (qual := qual) (f := f) S hr.hd e0 (len _ _ _ _ hsp) r x
  refine wpAny_mono (ht.run [] s1 (L2.start N vs) H _ I hq) ?_ fun e s' hs => hs
  intro fl s' hs
  match fl, hs with
  | .ret u, ⟨v, σ', H', J, rv, q⟩ => exact ⟨v, H', J.os, J.bare, J.base, J.hok, rv, q⟩
  | .next, ⟨σ', H', J, q⟩ => exact ⟨.non, H', J.os, J.bare, J.base, J.hok, rfl, q⟩
  | .brk, ⟨_, _, _, q⟩ => exact False.elim q
  | .cont, ⟨_, _, _, q⟩ => exact False.elim q

section
variable {T : Tb} {G : Nat → R D} {c : Callee} {wf : Nat} {F H : Hp}
theorem RDs.getD0 {vs : List V} {ds : List D} (r : RDs T F vs ds) {i : Nat} {d : D} (h : ds[i]? = some d) : ∃ v, vs[i]? = some v ∧ RD T F v d := r.get h
def ArgsP (T : Tb) (F H : Hp) (vs : List V) (ds : List D) : Option Addr → Prop
  | none => RDs T F vs ds
  | some a => ∃ vs' d0 ds', vs = .ref a :: vs' ∧ ds = d0 :: ds' ∧ RO T F H 1 (.ref a) d0 [a] ∧ RDs T F vs' ds'
def BackP (T : Tb) (F' H' : Hp) : Option Addr → Option D → Prop
  | none, none => True
  | some a, some g => RO T F' H' 1 (.ref a) g [a]
  | _, _ => False
def own0 : Option Addr → Nat → List Addr
  | some a, i => if i = 0 then [a] else []
  | none, _ => []
def EndP (T : Tb) (F H : Hp) (fd : FD) (io : Option Addr) (Q : VK) (E : XK) : R (D × Option D) → Prop
  | .ok (d, g) => ∀ v F' H' fp, (scalar d = true ∨ fd.scal = false) → Le F' H' → Pres (Rest H io) F H F' H' → RO T F' H' fd.lv v d fp → fp.Nodup → (∀ a ∈ fp, H a = none ∧ H' a ≠ none ∧ F' a = none) → BackP T F' H' io g → Q v H'
  | .ex c dv => io = none ∧ ∀ C dx v F' H', T.ca c = some C → Le F' H' → Pres (Rest H io) F H F' H' → H dx = none → H' dx = some (.xd [("value", v)]) → RD T F' v dv → E (.ref C) (some dx) H'
  | .bad => False
/-- the state at a def's entry -/
theorem entry {fd : FD} {N : List Str} {vs : List V} {ds : List D} {io : Option Addr} (hN : N.length = fd.ns) (hv : vs.length = fd.np) (hle : Le F H) (hio : io.isSome = fd.io) (hl : ds.length = fd.np) (hnp : fd.np ≤ fd.ns)
    (h : ArgsP T F H vs ds io) :
    Rel T (Rest H io) io F H (L2.start N vs) (ds.map some ++ List.replicate (fd.ns - ds.length) none) (lv0 fd) (own0 io) := by
  have len : (L2.start N vs).length = (ds.map some ++ List.replicate (fd.ns - ds.length) none).length := by
    unfold L2.start
    simp only [List.length_append, List.length_map, List.length_replicate]
    omega
  have get : ∀ i d, (ds.map some ++ List.replicate (fd.ns - ds.length) none : DEnv)[i]? = some (some d) → ds[i]? = some d := fun i d e => by
    by_cases hi : i < ds.length
    · rw [List.getElem?_append_left (by simpa using hi), List.getElem?_map] at e
      cases q : ds[i]? with
      | none => rw [q] at e; cases e
      | some x => rw [q] at e; cases e; rfl
    · rw [List.getElem?_append_right (by simpa using hi), List.getElem?_replicate] at e
      split at e <;> cases e
  have st : ∀ i v, vs[i]? = some v → (L2.start N vs)[i]? = some (some v) := fun i v e => by
    unfold L2.start
    have hi := (List.getElem?_eq_some_iff.mp e).1
    rw [List.getElem?_append_left (by simpa using hi), List.getElem?_map, e]; rfl
  cases io with
  | none =>
    have hf : fd.io = false := by rw [← hio]; rfl
    have h : RDs T F vs ds := h
    refine ⟨len, hle, fun i d e => ?_, fun i a m => (List.not_mem_nil (show a ∈ ([] : List Addr) from m)).elim, fun i => List.nodup_nil, fun i j a m => (List.not_mem_nil (show a ∈ ([] : List Addr) from m)).elim, fun a w => w.1, fun a e => by cases e⟩
    have e := get i d e
    obtain ⟨v, h1, h2⟩ := h.get e
    have hi : i < fd.np := by rw [← hl]; exact (List.getElem?_eq_some_iff.mp e).1
    have z : (lv0 fd).getD i 0 = 0 := by
      unfold lv0
      rw [hf]
      rw [List.getD_eq_getElem?_getD, List.getElem?_append_left (by simpa using hi)]
      simp [List.getElem?_replicate, hi]
    exact ⟨v, st i v h1, by rw [z]; exact .frz h2⟩
  | some a =>
    have hf : fd.io = true := by rw [← hio]; rfl
    obtain ⟨vs', d0, ds', rfl, rfl, ro, rs⟩ := h
    have hat := RO.at (fp := []) ro
    have lv : ∀ i, i < fd.np → (lv0 fd).getD i 0 = if i = 0 then 1 else 0 := fun i hi => by
      unfold lv0
      rw [hf]
      rw [List.getD_eq_getElem?_getD, List.getElem?_append_left (by simp; omega)]
      cases i with
      | zero => rfl
      | succ i =>
        show (List.replicate (fd.np - 1) 0)[i]?.getD 0 = 0
        rw [List.getElem?_replicate]
        split <;> rfl
    have hnp1 : 0 < fd.np := by rw [← hl]; simp
    refine ⟨len, hle, fun i d e => ?_, fun i b m => ?_, fun i => ?_, fun i j b m1 m2 => ?_, fun b w => w.1, fun b e => ?_⟩
    · have e := get i d e
      have hi : i < fd.np := by rw [← hl]; exact (List.getElem?_eq_some_iff.mp e).1
      rw [lv i hi]
      cases i with
      | zero =>
        simp at e; subst e
        exact ⟨_, st 0 _ rfl, ro⟩
      | succ i =>
        obtain ⟨v, h1, h2⟩ := rs.get (i := i) (by simpa using e)
        exact ⟨v, st (i + 1) v (by simpa using h1), .frz h2⟩
    · have m : b ∈ (if i = 0 then [a] else []) := m
      split at m
      · obtain rfl : b = a := by simpa using m
        exact ⟨hat.1, hat.2, fun w => w.2 rfl⟩
      · simp at m
    · show (if i = 0 then [a] else []).Nodup
      split <;> simp
    · have m1 : b ∈ (if i = 0 then [a] else []) := m1
      have m2 : b ∈ (if j = 0 then [a] else []) := m2
      split at m1
      · split at m2
        · omega
        · simp at m2
      · simp at m1
    · cases e
      exact ⟨st 0 _ rfl, rfl, by rw [lv 0 hnp1]; rfl, d0, rfl⟩
/-- what the body's end tells the caller -/
theorem ends {fd : FD} {ds : List D} {io : Option Addr} {r : LR} {Q : VK} {E : XK} (hio : io.isSome = fd.io) (hl : ds.length = fd.np)
    (h : EndP T F H fd io Q E (runF G c wf fd ds)) {σ : L2.St} :
    SPost T (fun cc d _ H' => E cc d H') (if fd.scal then 0 else fd.lv) (Rest H io) io r F H σ { nx := fun _ H' => Q .non H', rt := Q } (runs G c wf fd.body (ds.map some ++ List.replicate (fd.ns - ds.length) none)) := by
  unfold runF at h
  rw [if_pos hl] at h
  cases hr : runs G c wf fd.body (ds.map some ++ List.replicate (fd.ns - ds.length) none) with
  | bad => rw [hr] at h; exact h
  | bk ρ => rw [hr] at h; exact False.elim h
  | ct ρ => rw [hr] at h; exact False.elim h
  | ex k v =>
    rw [hr] at h
    cases hf : fd.io with
    | true => rw [hf] at h; exact False.elim h
    | false =>
      rw [hf] at h
      obtain ⟨h1, h2⟩ := h
      exact fun C dx w F' H' a1 a2 a3 a4 a5 a6 => h2 C dx w F' H' a1 a2 a3 a4 a5 a6
  | nx ρ =>
    rw [hr] at h
    intro σ' F' H' fps' r' p'
    cases hf : fd.io with
    | false =>
      rw [hf] at h hio
      have hn : io = none := by cases io <;> first | rfl | cases hio
      subst hn
      exact h .non F' H' [] (.inl rfl) r'.sub p' (.sc rfl .non) List.nodup_nil (fun a m => by simp at m) trivial
    | true =>
      rw [hf] at h hio
      obtain ⟨a, rfl⟩ := Option.isSome_iff_exists.mp hio
      obtain ⟨k1, k2, k3, d0, k4⟩ := r'.iok a rfl
      simp only [k4] at h
      obtain ⟨v0, e0, ro⟩ := r'.slot 0 d0 k4
      rw [k1] at e0; cases e0
      rw [k2, k3] at ro
      exact h .non F' H' [] (.inl rfl) r'.sub p' (.sc rfl .non) List.nodup_nil (fun a m => by simp at m) ro
  | rt d ρ =>
    rw [hr] at h
    intro v σ' F' H' fps' fp gr r' p' ro nw
    dsimp only at h
    by_cases hs : (fd.scal && !scalar d) = true
    · rw [if_pos hs] at h; exact False.elim h
    · rw [if_neg hs] at h
      have hsc : scalar d = true ∨ fd.scal = false := by
        cases e : fd.scal with
        | false => exact .inr rfl
        | true => rw [e] at hs; exact .inl (by simpa using hs)
      -- the value, owned as promised
      have val : ∃ fp', RO T F' H' fd.lv v d fp' ∧ fp'.Nodup ∧ (∀ a ∈ fp', a ∈ fp) := by
        cases e : fd.scal with
        | false => rw [e] at ro; exact ⟨fp, ro, nw.nd, fun a m => m⟩
        | true =>
          rw [e] at ro hsc
          have hd : scalar d = true := hsc.elim id fun z => by cases z
          exact ⟨[], .sc hd (ro.scl hd), List.nodup_nil, fun a m => by simp at m⟩
      obtain ⟨fp', ro', nd', sub'⟩ := val
      cases hf : fd.io with
      | false =>
        rw [hf] at h hio
        have hn : io = none := by cases io <;> first | rfl | cases hio
        subst hn
        refine h v F' H' fp' hsc r'.sub p' ro' nd' (fun a m => ?_) trivial
        obtain ⟨n1, n2, n3, n4⟩ := nw.ok a (sub' a m)
        exact ⟨Classical.byContradiction fun z => n1 ⟨z, by simp⟩, n3, n4⟩
      | true =>
        rw [hf] at h hio
        obtain ⟨a, rfl⟩ := Option.isSome_iff_exists.mp hio
        obtain ⟨k1, k2, k3, d0, k4⟩ := r'.iok a rfl
        simp only [k4] at h
        obtain ⟨v0, e0, ro0⟩ := r'.slot 0 d0 k4
        rw [k1] at e0; cases e0
        rw [k2, k3] at ro0
        refine h v F' H' fp' hsc r'.sub p' ro' nd' (fun b m => ?_) ro0
        obtain ⟨n1, n2, n3, n4⟩ := nw.ok b (sub' b m)
        refine ⟨Classical.byContradiction fun z => n1 ⟨z, fun e => n2 0 ?_⟩, n3, n4⟩
        rw [k2]
        cases e
        exact List.mem_cons_self
end

/-- what the written part tells of the text -/
structure Facts (P : Program) (w : World) (K : PySem.W.Frag) (mg : Str → Option Value) (T : Tb) (dfs : List DF) (gls : List (Str × D)) : Prop where
  hK : T.K = K
  bl : ∀ x ∈ bltNames, mg x = none
  df : ∀ (f : Nat) (d : DF), dfs[f]? = some d → ∃ a fdt, T.fa f = some a ∧ mg d.x = some (.ref a) ∧ FunD K d.x d.x (defArgs d.st) (defBody d.st) (defScope d.st) [] [] a fdt ∧
    ∀ ks ∈ d.kws, ∀ (s : Shared) (us ws : List Value), (us ++ ws).length = d.ps.length → ws.length = ks.length → BindsP s fdt ⟨us, ks.zip ws⟩ (d.ps.zip (us ++ ws))
  gl : ∀ (g : Nat) (p : Str × D), gls[g]? = some p → ∃ v u, mg p.1 = some u ∧ RelV v u ∧ ∀ F, RD T F v p.2
theorem fns {P : Program} {w : World} {K : PySem.W.Frag} {mg : Str → Option Value} {T : Tb} {dfs : List DF} {gls : List (Str × D)} {base : Heap} (fx : Facts P w K mg T dfs gls) (wf : Nat) (hok : ∀ d ∈ dfs, dfOk (infoOf dfs gls) d = true) :
    ∀ (n : Nat) (f : Nat) (d : DF), dfs[f]? = some d → ∃ a fdt, T.fa f = some a ∧ mg d.x = some (.ref a) ∧ PySem.W.keepIn K (.ref a) = true ∧
      (∀ ks ∈ d.kws, ∀ (s : Shared) (us ws : List Value), (us ++ ws).length = d.ps.length → ws.length = ks.length → BindsP s fdt ⟨us, ks.zip ws⟩ (d.ps.zip (us ++ ws))) ∧
      FnG P w K mg base n a fdt d.ps (spF T d.fd (callD (progOf dfs) (globOf gls) wf n f)) ∧ FunD K d.x d.x (defArgs d.st) (defBody d.st) (defScope d.st) [] [] a fdt
  | 0, f, d, h => by
    obtain ⟨a, fdt, h1, h2, h3, h4⟩ := fx.df f d h
    have no : ∀ vs H Q E, ¬ spF T d.fd (callD (progOf dfs) (globOf gls) wf 0 f) vs H Q E := fun vs H Q E ⟨_, _, _, _, _, _, _, z⟩ => z
    exact ⟨a, fdt, h1, h2, h3.kp, h4, ⟨fun vs H Q E z => absurd z (no _ _ _ _), fun _ _ _ _ _ _ _ _ _ _ _ _ _ _ z => absurd z (no _ _ _ _)⟩, h3⟩
  | n + 1, f, d, h => by
    obtain ⟨a, fdt, h1, h2, h3, h4⟩ := fx.df f d h
    have hd := hok d (List.mem_of_getElem? h)
    unfold dfOk at hd
    simp only [Bool.and_eq_true, decide_eq_true_eq] at hd
    obtain ⟨⟨⟨⟨⟨d1, d2⟩, d3⟩, d4⟩, d5⟩, d6⟩ := hd
    obtain ⟨r, hr⟩ := Option.isSome_iff_exists.mp d6
    refine ⟨a, fdt, h1, h2, h3.kp, h4, FnG.ofD h3 (scopeOk_of d1) (fun vs H Q E z => by rw [z.1, d2]) (fun cdv A outer s H vs Q E gd rm hsp => ?_), h3⟩
    obtain ⟨hv, F, io, ds, hle, hio, hargs, hres⟩ := hsp
    let X := cxOf (L2.CX P w) P w K mg base d.N d.x (defScope d.st) a cdv A outer s H E
    have ok : Ok (infoOf dfs gls) T (globOf gls) (callD (progOf dfs) (globOf gls) wf n) n d.N (fun cc dd _ H' => E cc dd H') X := by
      refine ⟨rfl, fx.hK.symm, rfl, (scopeOk_of d1).nd, gd, rm, takes_of rfl rfl rfl rfl, fx.bl, fun f2 x2 fd2 e => ?_, fun g x e => ?_⟩
      · unfold infoOf at e
        dsimp only at e
        cases q : dfs[f2]? with
        | none => rw [q] at e; cases e
        | some d2' =>
          rw [q] at e
          cases e
          obtain ⟨a2, fdt2, k1, k2, k3, k4, k5, _⟩ := fns fx wf hok n f2 d2' q
          refine ⟨a2, fdt2, d2'.ps, k1, k2, k3, k5, ?_, fun ks m => ?_⟩
          · have hd2 := hok d2' (List.mem_of_getElem? q)
            unfold dfOk at hd2
            simp only [Bool.and_eq_true, decide_eq_true_eq] at hd2
            exact hd2.1.1.1.1.2
          · have m : ks ∈ (match dfs[f2]? with | some d => d.kws | none => []) := m
            rw [q] at m
            exact k4 ks m
      · unfold infoOf at e
        dsimp only at e
        cases q : gls[g]? with
        | none => rw [q] at e; cases e
        | some p =>
          rw [q] at e
          cases e
          obtain ⟨v, u, k1, k2, k3⟩ := fx.gl g p q
          exact ⟨v, u, p.2, by unfold globOf; rw [q], k1, k2, k3⟩
    have sx : SX (fun cc dd _ H' => E cc dd H') X := ⟨fun _ => rfl, passes_of rfl, fun _ _ _ _ _ z => z, (scopeOk_of d1).kind⟩
    have e2 : callD (progOf dfs) (globOf gls) wf (n + 1) f ds = runF (globOf gls) (callD (progOf dfs) (globOf gls) wf n) wf d.fd ds := by
      have : progOf dfs f = some d.fd := by unfold progOf; rw [h]; rfl
      simp only [callD, this]
    have hl : ds.length = d.fd.np := by
      cases io with
      | none =>
        have hargs : RDs T F vs ds := hargs
        rw [← hargs.length, hv]
      | some a0 =>
        obtain ⟨vs', d0, ds', rfl, rfl, _, rs⟩ := hargs
        have := rs.length
        simp only [List.length_cons] at hv ⊢
        omega
    rw [e2] at hres
    have hargs' : ArgsP T F H vs ds io := by cases io <;> exact hargs
    have hres' : EndP T F H d.fd io Q E (runF (globOf gls) (callD (progOf dfs) (globOf gls) wf n) wf d.fd ds) := by
      cases hq : runF (globOf gls) (callD (progOf dfs) (globOf gls) wf n) wf d.fd ds with
      | bad => rw [hq] at hres; exact hres
      | ex c v => rw [hq] at hres; exact hres
      | ok z =>
        obtain ⟨z, gg⟩ := z
        rw [hq] at hres
        intro v F' H' fp a1 a2 a3 a4 a5 a6 a7
        refine hres v F' H' fp a1 a2 a3 a4 a5 a6 ?_
        cases io <;> cases gg <;> exact a7
    refine ⟨_, mss_all (infoOf dfs gls) T (globOf gls) (callD (progOf dfs) (globOf gls) wf n) wf n d.N d.fd.io (if d.fd.scal then 0 else d.fd.lv) d.fd.body (X := X) (sc := defScope d.st) ok rfl sx hr, Rest H io, io, F, _, _, hio, entry (N := d.N) d3 hv hle hio hl d4 hargs', ?_⟩
    exact ends hio hl hres'
end Fh
end
section
set_option maxRecDepth 100000
set_option maxHeartbeats 2000000
/-! A law's end, for the evaluator. -/
namespace Fh
open PySem PySem.Spec PyProof.Rows L2

theorem law_callG {P : Program} {w : World} {K : PySem.W.Frag} {mg mb : Str → Option Value} {n : Nat} {f p : Addr} {fdt : FuncData} {y : Str} {sp : Sp} {s1 : Shared} {us : List Value} {zs : List Int}
    (KX : K.In s1.heap) (hg0 : s1.heap.Ns mainGlobals mg) (hb0 : s1.heap.Ns builtinsNs mb) (hb1 : ∀ z : Str, z ≠ "__name__" → mb z = bootBuiltins z) (hlim : s1.heap.NoLimit) (hgen : s1.gens = #[])
    (hp : s1.heap.get? p = some { cls := .type "list", data := .seq us.toArray }) (hz : IntsAre us zs) (hl : zs.length ≤ sizeLine) (hr : Room n callerA)
    (F : ∀ base : Heap, K.In base → base.Ns mainGlobals mg → FnG P w K mg base n f fdt [y] sp) (hbind : ∀ (s : Shared) (u : Value), BindsP s fdt ⟨[u], []⟩ [(y, u)])
    (hsp : ∀ H : Hp, LL K H p (zs.map V.int) → sp [.ref p] H (fun v _ => v = .bl true) fun _ _ _ => False) :
    codeAny (model P w) callerA (.call (.ref f) ⟨[.ref p], []⟩) (fun r s' => r = .ok (.ret (.bool true)) ∧ OldK s1.heap s'.heap ∧ s'.os = s1.os ∧ AllBare s'.gens) s1 := by
  have rz := vals_ints hz
  have ulen := hz.length
  have main : ∀ H : Hp, Only H → LL K H p (zs.map V.int) → HOk P w H s1.heap → (∀ b, H b ≠ none → b = p) → (H p ≠ none → K.lookup p = none) →
      codeAny (model P w) callerA (.call (.ref f) ⟨[.ref p], []⟩) (fun r s' => r = .ok (.ret (.bool true)) ∧ OldK s1.heap s'.heap ∧ s'.os = s1.os ∧ AllBare s'.gens) s1 := by
    intro H only isL hok one noK
    have low : ∀ {b : Addr} {o : Obj}, s1.heap.get? b = some o → H b = none → (hidT s1.heap H).get? b = some o := fun e z => hidT_get e z
    have dictFree : ∀ {b : Addr} {o : Obj} {es : Array DictEntry} {ep : Nat}, s1.heap.get? b = some o → o.data = .dict es ep → H b = none := by
      intro b o es ep e d
      cases q : H b with
      | none => rfl
      | some u =>
        obtain rfl : b = p := one b (by rw [q]; simp)
        rw [hp] at e
        cases e
        cases (show Data.seq us.toArray _ = Data.dict es ep from d)
    have nsLow : ∀ {b : Addr} {m : Str → Option Value}, s1.heap.Ns b m → (hidT s1.heap H).Ns b m := by
      rintro b m ⟨o, es, ep, e, d, r⟩
      exact ⟨o, es, ep, low e (dictFree e d), d, r⟩
    have KL : K.In (hidT s1.heap H) := by
      intro b o e
      refine low (KX b o e) ?_
      cases q : H b with
      | none => rfl
      | some u =>
        obtain rfl : b = p := one b (by rw [q]; simp)
        rw [noK (by rw [q]; simp)] at e
        cases e
    have md : Mod K mg (hidT s1.heap H) := ⟨KL, nsLow hg0, ⟨mb, nsLow hb0, hb1⟩, by
      obtain ⟨mc, q1, q2⟩ := hlim
      exact ⟨mc, nsLow q1, q2⟩⟩
    have env0 : Env0 P w K mg (hidT s1.heap H) callerA [] s1 H :=
      ⟨rfl, md, fun b o e => of_hidT e, Nat.le_of_eq (hidT_size _ _), trivial, fun b hb => (List.not_mem_nil (show b ∈ ([] : List Addr) from hb)).elim, hok, .of_eq hgen⟩
    have go := (F _ KL (nsLow hg0)).run callerA [] s1 H ⟨[.ref p], []⟩ [.ref p] [.ref p] _ _ rfl hr env0 (hbind s1 (.ref p)) (.cons rfl .nil) (hsp H isL)
    refine codeAny_mono go fun r s' h => ?_
    match r, h with
    | .error e, h =>
      obtain ⟨_, _, _, _, _, _, _, _, _, _, _, _, z⟩ := h
      exact z.elim
    | .ok .next, h => exact False.elim h
    | .ok .brk, h => exact False.elim h
    | .ok .cont, h => exact False.elim h
    | .ok (.ret u), ⟨v, H', os, bare, un, hok', rv, q⟩ =>
      obtain rfl : v = .bl true := q
      obtain rfl : u = Value.bool true := rv
      refine ⟨rfl, OldK.of_keep fun b o e => ?_, os, bare⟩
      cases q : H b with
      | none => exact un.keep b o e q (fun z => (List.not_mem_nil (show b ∈ ([] : List Addr) from z)).elim) (by simp)
      | some u =>
        rcases only b with z | ⟨ob, xs, z⟩
        · rw [q] at z; cases z
        · obtain ⟨k1, _⟩ := hok b _ z
          obtain ⟨k2, _⟩ := hok' b _ (un.frzs b ob _ z)
          rw [e] at k1
          cases k1
          exact k2
  cases hk : K.lookup p with
  | some o =>
    have e := KX p o hk
    rw [hp] at e
    cases e
    refine main (fun _ => none) (fun _ => .inl rfl) (.inr ⟨us.toArray, _, hk, by rw [List.size_toArray, ulen]; exact hl, by simpa using rz⟩) (fun b u z => ?_) (fun b z => absurd rfl z) fun z => absurd rfl z
    cases (show (none : Option HO) = some u from z)
  | none =>
    refine main (fun b => if b = p then some (.frz { cls := .type "list", data := .seq us.toArray } (.lst (zs.map V.int))) else none) (fun b => ?_) (.inl (.inr ⟨{ cls := .type "list", data := .seq us.toArray }, if_pos rfl⟩)) (fun b u z => ?_) (fun b z => ?_) fun _ => hk
    · by_cases e : b = p
      · exact .inr ⟨_, _, if_pos e⟩
      · exact .inl (if_neg e)
    · by_cases e : b = p
      · subst e
        cases (if_pos rfl).symm.trans z
        exact ⟨hp, by rw [List.length_map]; exact hl, us, _, rz, hp⟩
      · cases (if_neg e).symm.trans z
    · exact Classical.byContradiction fun e => z (if_neg e)
theorem walk_G {l : PySem.W.OpenLaw} {m n : Nat} {q : Program} {loose : List Str} {XP : (Str → Option Value) → Heap → Prop} {YP : World → Heap → Prop} {d : DefRec} {y : Str}
    (hm : l.most = some m) (hm2 : m ≤ sizeLine) (hdf : d.params.defaults = []) (hr : Room n callerA)
    (F : ∀ (w : World) (mg : Str → Option Value) (f : Addr) (h : Heap), YP w h → h.Ns mainGlobals mg → mg d.name = some (.ref f) →
      ∃ (K : PySem.W.Frag) (fdt : FuncData) (sp : Sp), K.In h ∧ (∀ (s : Shared) (u : Value), BindsP s fdt ⟨[u], []⟩ [(y, u)]) ∧
        (∀ (H : Hp) (p : Addr) (zs : List Int), zs.length ≤ m → LL K H p (zs.map V.int) → sp [.ref p] H (fun v _ => v = .bl true) fun _ _ _ => False) ∧
        ∀ base : Heap, K.In base → base.Ns mainGlobals mg → FnG l.prog w K mg base n f fdt [y] sp) :
    PySem.W.WalkO q loose XP YP l.row.toRowW d [] (fun f vs => PySem.call f vs) := by
  refine Att.attach_call hm hdf fun w s0 s1 mg mb f o pm cd doc p us zs G Y ho hd hcd hmg hobj hints hlen hg => ?_
  obtain ⟨K, fdt, sp, KX, hb, hsp, hF⟩ := F w mg f _ Y G.T.g hmg
  exact law_callG KX G.T.g G.T.b G.T.builtins G.T.nolimit hg hobj hints (Nat.le_trans hlen hm2) hr hF hb fun H hS => hsp H p zs hlen hS

/-- the tables of a text -/
def tbOf (K : PySem.W.Frag) (dfs : List DF) : Tb := ⟨K, fun f => dfs[f]?.map fun d => He.ga K d.x, fun _ => none⟩
theorem rd_ints {T : Tb} {F : Hp} : ∀ zs : List Int, RDs T F (zs.map V.int) (zs.map D.int)
  | [] => .nil
  | z :: zs => .cons (.int z) (rd_ints zs)
/-- the law's promise from the evaluator's answer -/
theorem law_sp {T : Tb} {K : PySem.W.Frag} {fd : FD} {cf : List D → R (D × Option D)} {H : Hp} {p : Addr} {zs : List Int} (hK : T.K = K) (h1 : fd.np = 1) (h2 : fd.io = false) (hS : LL K H p (zs.map V.int))
    (h : cf [.list (zs.map D.int)] = .ok (.bool true, none)) : spF T fd cf [.ref p] H (fun v _ => v = .bl true) fun _ _ _ => False := by
  refine ⟨by rw [h1]; rfl, H, none, [.list (zs.map D.int)], Le.refl _, by rw [h2]; rfl, .cons (.list (by rw [hK]; exact hS) (rd_ints zs)) .nil, ?_⟩
  rw [h]
  intro v F' H' fp _ _ _ ro _ _ _
  exact ro.bl
end Fh
end
section
set_option maxRecDepth 100000
set_option maxHeartbeats 2000000
/-! The head's facts of a text. -/
namespace Fh
open PySem PySem.Spec PyProof.Rows L2

def fnOf (dfs : List DF) : List He.DefD := dfs.map fun d => ⟨(d.x, none), d.x, d.x, defArgs d.st, defBody d.st, defScope d.st, [], []⟩
def glFa : Str × D → He.Fa
  | (x, .int i) => .int x i
  | (x, .str s) => .str x s
  | (x, _) => .int x 0
def glOk : Str × D → Bool
  | (_, .int _) => true
  | (_, .str _) => true
  | _ => false
def faOf (dfs : List DF) (gls : List (Str × D)) : List He.Fa := (dfs.map fun d => He.Fa.glo d.x) ++ (bltNames.map He.Fa.free ++ gls.map glFa)
/-- how calls bind, by the def's written form -/
def BindsAll (dfs : List DF) : Prop := ∀ d ∈ dfs, ∀ ks ∈ d.kws, ∀ (kV doc pm : Value) (an : Option Addr) (cdv ct : Value) (us ws : List Value), (us ++ ws).length = d.ps.length → ws.length = ks.length →
  ∃ l', bindArgs (PySem.W.fnOf d.x d.x (defArgs d.st) (defBody d.st) (defScope d.st) .none kV doc pm an cdv ct) ⟨us, ks.zip ws⟩ = pure l' ∧ l'.Perm (d.ps.zip (us ++ ws))
theorem binds_of {K : PySem.W.Frag} {dfs : List DF} (hB : BindsAll dfs) {d : DF} (hd : d ∈ dfs) {a : Addr} {fdt : FuncData} (F : FunD K d.x d.x (defArgs d.st) (defBody d.st) (defScope d.st) [] [] a fdt) :
    ∀ ks ∈ d.kws, ∀ (s : Shared) (us ws : List Value), (us ++ ws).length = d.ps.length → ws.length = ks.length → BindsP s fdt ⟨us, ks.zip ws⟩ (d.ps.zip (us ++ ws)) := by
  intro ks m s us ws h1 h2
  obtain ⟨oc, od, dV, kV, doc, pm, an, cdv, ct, osl, rfl, lk, hcd, hD, hK⟩ := F.ex
  rcases hD with ⟨_, rfl⟩ | ⟨e, _⟩
  · obtain ⟨l', e, p⟩ := hB d hd ks m kV doc pm an cdv ct us ws h1 h2
    exact ⟨l', .of_eq e, p⟩
  · exact absurd rfl e
theorem facts_of {P : Program} {w : World} {K : PySem.W.Frag} {h : Heap} {mg : Str → Option Value} {dfs : List DF} {gls : List (Str × D)} (hB : BindsAll dfs) (hg : ∀ p ∈ gls, glOk p = true) (X : K.In h) (G : h.Ns mainGlobals mg)
    (c : He.SaysD (faOf dfs gls) (fnOf dfs) K) : Facts P w K mg (tbOf K dfs) dfs gls := by
  have each : ∀ f ∈ faOf dfs gls, f.ok K = true := fun f m => by
    obtain ⟨i, hi⟩ := List.mem_iff_getElem?.mp m
    exact c.fact i hi
  refine ⟨rfl, fun x m => ?_, fun i d e => ?_, fun g p e => ?_⟩
  · exact He.free_ok X G (each _ (by unfold faOf; simp [m]))
  · have e2 : (fnOf dfs)[i]? = some ⟨(d.x, none), d.x, d.x, defArgs d.st, defBody d.st, defScope d.st, [], []⟩ := by unfold fnOf; rw [List.getElem?_map, e]; rfl
    obtain ⟨fdt, F⟩ := c.def_ i e2
    have hd := List.mem_of_getElem? e
    have gl : (He.Fa.glo d.x).ok K = true := each _ (by
      unfold faOf
      exact List.mem_append_left _ (List.mem_map.mpr ⟨d, hd, rfl⟩))
    refine ⟨He.ga K d.x, fdt, ?_, He.glo_ok X G gl, F, binds_of hB hd F⟩
    show (dfs[i]?).map (fun d => He.ga K d.x) = _
    rw [e]; rfl
  · have hp := List.mem_of_getElem? e
    have f1 := each (glFa p) (by
      unfold faOf
      exact List.mem_append_right _ (List.mem_append_right _ (List.mem_map.mpr ⟨p, hp, rfl⟩)))
    have f2 := hg p hp
    obtain ⟨x, d⟩ := p
    cases d <;> first | (cases f2; done) | skip
    · obtain ⟨t, ht⟩ := He.int_ok X G f1
      exact ⟨.int _, _, ht, ⟨t, rfl⟩, fun F => .int _⟩
    · obtain ⟨t, ht⟩ := He.str_ok X G f1
      exact ⟨.str _, _, ht, ⟨t, rfl⟩, fun F => .str _⟩
/-- the law, by the evaluator's answer -/
theorem law_walk {l : PySem.W.OpenLaw} {m n wf : Nat} {q : Program} {loose : List Str} {XP : (Str → Option Value) → Heap → Prop} {d : DefRec} {y : Str} {dfs : List DF} {gls : List (Str × D)} {i : Nat} {dl : DF}
    (hm : l.most = some m) (hm2 : m ≤ sizeLine) (hdf : d.params.defaults = []) (hr : Room n callerA) (hB : BindsAll dfs) (hg : ∀ p ∈ gls, glOk p = true) (hok : ∀ d ∈ dfs, dfOk (infoOf dfs gls) d = true)
    (hi : dfs[i]? = some dl) (hx : d.name = dl.x) (hps : dl.ps = [y]) (hnp : dl.fd.np = 1) (hio : dl.fd.io = false) (hks : [] ∈ dl.kws)
    (ans : ∀ zs : List Int, zs.length ≤ m → callD (progOf dfs) (globOf gls) wf n i [.list (zs.map D.int)] = .ok (.bool true, none)) :
    PySem.W.WalkO q loose XP (He.hookD 4 (faOf dfs gls) (fnOf dfs)).says l.row.toRowW d [] (fun f vs => PySem.call f vs) := by
  refine walk_G (y := y) hm hm2 hdf hr fun w mg f h Y G hmg => ?_
  obtain ⟨K, KX, c⟩ := Y
  have fx : Facts l.prog w K mg (tbOf K dfs) dfs gls := facts_of hB hg KX G c
  obtain ⟨a, fdt, h1, h2, h3, h4⟩ := fx.df i dl hi
  have e : f = a := by
    rw [hx, h2] at hmg
    cases hmg; rfl
  subst e
  refine ⟨K, fdt, spF (tbOf K dfs) dl.fd (callD (progOf dfs) (globOf gls) wf n i), KX, fun s u => ?_, fun H p zs hl hS => law_sp rfl hnp hio hS (ans zs hl), fun base hb hgb => ?_⟩
  · have := h4 [] hks s [u] [] (by rw [hps]; rfl) rfl
    rw [hps] at this
    exact this
  · obtain ⟨a2, fdt2, k1, k2, k3, k4, k5, k6⟩ := fns (base := base) fx wf hok n i dl hi
    have e2 : a2 = f := by rw [h1] at k1; cases k1; rfl
    subst e2
    rw [hps] at k5
    have e3 : fdt2 = fdt := by
      obtain ⟨_, _, _, _, _, _, _, _, _, _, _, z1, _⟩ := k6.ex
      obtain ⟨_, _, _, _, _, _, _, _, _, _, _, z2, _⟩ := h3.ex
      rw [z1] at z2
      cases z2; rfl
    subst e3
    exact k5
end Fh
namespace Fh
open PySem PySem.Spec PyProof.Rows L2
/-- one def, called with the keywords ks behind n positional arguments -/
def BindK (d : DF) (ks : List Str) : Prop := ∀ (kV doc pm : Value) (an : Option Addr) (cdv ct : Value) (us ws : List Value), us.length + ks.length = d.ps.length → ws.length = ks.length →
  ∃ l', bindArgs (PySem.W.fnOf d.x d.x (defArgs d.st) (defBody d.st) (defScope d.st) .none kV doc pm an cdv ct) ⟨us, ks.zip ws⟩ = pure l' ∧ l'.Perm (d.ps.zip (us ++ ws))
def BindD (d : DF) : List (List Str) → Prop
  | [] => True
  | ks :: r => BindK d ks ∧ BindD d r
def BindL : List DF → Prop
  | [] => True
  | d :: r => BindD d d.kws ∧ BindL r
theorem bindD_of {d : DF} : ∀ {l : List (List Str)}, BindD d l → ∀ ks ∈ l, BindK d ks
  | _ :: _, ⟨h, r⟩, ks, m => by
    rcases List.mem_cons.mp m with rfl | m
    · exact h
    · exact bindD_of r ks m
theorem bindL_of : ∀ {l : List DF}, BindL l → BindsAll l
  | _ :: _, ⟨h, r⟩, d, m, ks, mk, kV, doc, pm, an, cdv, ct, us, ws, h1, h2 => by
    rcases List.mem_cons.mp m with rfl | m
    · exact bindD_of h ks mk kV doc pm an cdv ct us ws (by rw [List.length_append] at h1; omega) h2
    · exact bindL_of r d m ks mk kV doc pm an cdv ct us ws h1 h2
end Fh
end
section
set_option maxRecDepth 100000
set_option maxHeartbeats 200000
/-! Equations of the evaluator, to be used by simp only, from the left. -/
namespace Fh
open PySem L2

def Out.seq (o : Out) (f : DEnv → Out) : Out := match o with
  | .nx ρ => f ρ
  | o => o
theorem seq_nx (ρ : DEnv) (f : DEnv → Out) : (Out.nx ρ).seq f = f ρ := rfl
theorem seq_rt (d : D) (ρ : DEnv) (f : DEnv → Out) : (Out.rt d ρ).seq f = .rt d ρ := rfl
theorem seq_bk (ρ : DEnv) (f : DEnv → Out) : (Out.bk ρ).seq f = .bk ρ := rfl
theorem seq_ct (ρ : DEnv) (f : DEnv → Out) : (Out.ct ρ).seq f = .ct ρ := rfl
theorem seq_ex (k : Nat) (v : D) (f : DEnv → Out) : (Out.ex k v).seq f = .ex k v := rfl

def retN (r : D × Option D) (ρ : DEnv) : R (D × DEnv) := match r with
  | (d, none) => .ok (d, ρ)
  | _ => .bad
def retIO (r : D × Option D) (i : Nat) (ρ : DEnv) : R (D × DEnv) := match r with
  | (d, some g) => .ok (d, ρ.set i (some g))
  | _ => .bad
theorem retN_n (d : D) (ρ : DEnv) : retN (d, none) ρ = .ok (d, ρ) := rfl
theorem retIO_s (d g : D) (i : Nat) (ρ : DEnv) : retIO (d, some g) i ρ = .ok (d, ρ.set i (some g)) := rfl
theorem noex_ok {α : Type} (a : α) : noex (R.ok a) = .ok a := rfl
def chainK (r : D) (ρ : DEnv) (k : R (D × DEnv)) : R (D × DEnv) := match r with
  | .bool true => k
  | .bool false => .ok (.bool false, ρ)
  | _ => .bad
theorem chainK_b (b : Bool) (ρ : DEnv) (k : R (D × DEnv)) : chainK (.bool b) ρ k = if b then k else .ok (.bool false, ρ) := by cases b <;> rfl

theorem getV_0 (a : D) (l : DEnv) : getV (some a :: l) 0 = .ok a := rfl
theorem getV_s (a : Option D) (l : DEnv) (i : Nat) : getV (a :: l) (i + 1) = getV l i := rfl
theorem set_0 (a b : Option D) (l : DEnv) : List.set (a :: l) 0 b = b :: l := rfl
theorem set_s (a b : Option D) (l : DEnv) (i : Nat) : List.set (a :: l) (i + 1) b = a :: List.set l i b := rfl

section
variable {G : Nat → R D} {c : Callee} {wf : Nat}
theorem runs_nil (ρ : DEnv) : runs G c wf .nil ρ = .nx ρ := rfl
theorem runs_cons (s : S) (ss : Ss) (ρ : DEnv) : runs G c wf (.cons s ss) ρ = (run G c wf s ρ).seq fun r => runs G c wf ss r := by
  show (match run G c wf s ρ with | .nx ρ1 => runs G c wf ss ρ1 | o => o) = _
  cases run G c wf s ρ <;> rfl
theorem run_asg (i : Nat) (e : E) (ρ : DEnv) : run G c wf (.asg i e) ρ = (ev G c e ρ).out fun p => .nx (p.2.set i (some p.1)) := rfl
theorem run_asgT (is : List Nat) (e : E) (ρ : DEnv) : run G c wf (.asgT is e) ρ = (ev G c e ρ).out fun p => ((Tg.tup is).set p.1 p.2).out fun r => .nx r := rfl
theorem run_par (is : List Nat) (es : Es) (ρ : DEnv) : run G c wf (.par is es) ρ = (evs G c es ρ).out fun p => .nx ((is.zip p.1).foldl (fun r q => r.set q.1 (some q.2)) p.2) := rfl
theorem run_setix (i : Nat) (ix e : E) (ρ : DEnv) : run G c wf (.setix i ix e) ρ = (ev G c e ρ).out fun p => (getV p.2 i).out fun _ => (ev G c ix p.2).out fun q => (getV q.2 i).out fun l => (setIx l q.1 p.1).out fun l' => .nx (q.2.set i (some l')) := rfl
theorem run_app (i : Nat) (e : E) (ρ : DEnv) : run G c wf (.app i e) ρ = (getV ρ i).out fun l0 => if !isTy .list l0 then .bad else (ev G c e ρ).out fun p => (getV p.2 i).out fun l => (appD l p.1).out fun l' => .nx (p.2.set i (some l')) := rfl
theorem run_ins (i : Nat) (ix e : E) (ρ : DEnv) : run G c wf (.ins i ix e) ρ = (getV ρ i).out fun l0 => if !isTy .list l0 then .bad else (ev G c ix ρ).out fun q => (ev G c e q.2).out fun p => (getV p.2 i).out fun l => (insD l q.1 p.1).out fun l' => .nx (p.2.set i (some l')) := rfl
theorem run_spoil (i : Nat) (p : List Int) (e : E) (ρ : DEnv) : run G c wf (.spoil i p e) ρ = (getV ρ i).out fun l => if pathOk l p then .nx (ρ.set i none) else .bad := rfl
theorem run_exp (e : E) (ρ : DEnv) : run G c wf (.exp e) ρ = (ev G c e ρ).out fun p => .nx p.2 := rfl
theorem run_ite (t : E) (a b : Ss) (ρ : DEnv) : run G c wf (.ite t a b) ρ = (ev G c t ρ).out fun p => (truth p.1).out fun k => if k then runs G c wf a p.2 else runs G c wf b p.2 := rfl
theorem run_for (tg : Tg) (it : It) (b : Ss) (ρ : DEnv) : run G c wf (.for_ tg it b) ρ = (evIt G c it ρ).out fun p => forLoop tg.set (fun r => runs G c wf b r) p.1 p.2 := rfl
theorem run_whl (t : E) (b : Ss) (ρ : DEnv) : run G c wf (.whl t b) ρ = whileLoop (ev G c t) (fun r => runs G c wf b r) wf ρ := rfl
theorem run_ret (e : E) (ρ : DEnv) : run G c wf (.ret e) ρ = (ev G c e ρ).out fun p => .rt p.1 p.2 := rfl
theorem run_retv (i : Nat) (ρ : DEnv) : run G c wf (.retv i) ρ = (getV ρ i).out fun d => .rt d (ρ.set i none) := rfl
theorem run_pass (ρ : DEnv) : run G c wf .pass ρ = .nx ρ := rfl
theorem run_brk (ρ : DEnv) : run G c wf .brk ρ = .bk ρ := rfl
theorem run_cnt (ρ : DEnv) : run G c wf .cnt ρ = .ct ρ := rfl

theorem ev_cst (d : D) (ρ : DEnv) : ev G c (.cst d) ρ = .ok (d, ρ) := rfl
theorem ev_var (i : Nat) (ρ : DEnv) : ev G c (.var i) ρ = (getV ρ i).bind fun d => .ok (d, ρ) := rfl
theorem ev_glo (g : Nat) (ρ : DEnv) : ev G c (.glo g) ρ = (G g).bind fun d => .ok (d, ρ) := rfl
theorem ev_prim (p : Prim) (as : Es) (ρ : DEnv) : ev G c (.prim p as) ρ = (evOps G c as ρ).bind fun q => (prim p q.1).bind fun d => .ok (d, q.2) := rfl
theorem ev_bop (b : Bool) (as : Es) (ρ : DEnv) : ev G c (.bop b as) ρ = evB G c b as ρ := rfl
theorem ev_ife (t a b : E) (ρ : DEnv) : ev G c (.ife t a b) ρ = (ev G c t ρ).bind fun p => (truth p.1).bind fun k => if k then ev G c a p.2 else ev G c b p.2 := rfl
theorem ev_lst (as : Es) (ρ : DEnv) : ev G c (.lst as) ρ = (evs G c as ρ).bind fun p => .ok (.list p.1, p.2) := rfl
theorem ev_tup (as : Es) (ρ : DEnv) : ev G c (.tup as) ρ = (evs G c as ρ).bind fun p => .ok (.tup p.1, p.2) := rfl
theorem ev_dct (ρ : DEnv) : ev G c .dct ρ = .ok (.dict [] [], ρ) := rfl
theorem ev_chain (o1 o2 : Prim) (x y z : E) (ρ : DEnv) : ev G c (.chain o1 o2 x y z) ρ = (ev G c x ρ).bind fun p => (ev G c y p.2).bind fun q => (prim o1 [p.1, q.1]).bind fun r => chainK r q.2 ((ev G c z q.2).bind fun t => (prim o2 [q.1, t.1]).bind fun r => .ok (r, t.2)) := by
  show (ev G c x ρ).bind _ = _
  congr 1
theorem ev_call (f : Nat) (as : Es) (ρ : DEnv) : ev G c (.call f as) ρ = (evOps G c as ρ).bind fun p => (c f p.1).bind fun r => retN r p.2 := by
  show (evOps G c as ρ).bind _ = _
  congr 1
theorem ev_callio (f i : Nat) (as : Es) (ρ : DEnv) : ev G c (.callio f i as) ρ = (getV ρ i).bind fun _ => (evOps G c as ρ).bind fun p => (getV p.2 i).bind fun g => if isTy .list g then (noex (c f (g :: p.1))).bind fun r => retIO r i p.2 else .bad := by
  show (getV ρ i).bind _ = _
  congr 1
theorem ev_callq (f i : Nat) (j : Int) (ρ : DEnv) : ev G c (.callq f i j) ρ = (getV ρ i).bind fun l => (prim .idx [l, .int j]).bind fun d => (noex (c f [d])).bind fun r => retN r ρ := by
  show (getV ρ i).bind _ = _
  congr 1
def retZ (r : D × Option D) (ρ : DEnv) : R (D × DEnv) := match r with
  | (d, none) => if scalar d then .ok (d, ρ) else .bad
  | _ => .bad
theorem ev_callz (f : Nat) (as : Es) (ρ : DEnv) : ev G c (.callz f as) ρ = (noex (evOps G c as ρ)).bind fun p => (noex (c f p.1)).bind fun r => retZ r ρ := by
  show (noex (evOps G c as ρ)).bind _ = _
  congr 1
theorem ev_comp (elt : E) (own : List Nat) (tg : Tg) (it : It) (ifs : Es) (ρ : DEnv) : ev G c (.comp elt own tg it ifs) ρ = (evIt G c it ρ).bind fun p =>
    if p.1.length ≤ SZ then (noex (compLoop (fun d r => tg.set d (wipeE own r)) (fun r => evIfs G c ifs r) (fun r => ev G c elt r) p.1 p.2)).bind fun q => .ok (.list q.1, restore own p.2 q.2) else .bad := rfl
theorem evs_nil (ρ : DEnv) : evs G c .nil ρ = .ok ([], ρ) := rfl
theorem evs_cons (e : E) (es : Es) (ρ : DEnv) : evs G c (.cons e es) ρ = (ev G c e ρ).bind fun p => (evs G c es p.2).bind fun q => .ok (p.1 :: q.1, q.2) := rfl
theorem evOps_nil (ρ : DEnv) : evOps G c .nil ρ = .ok ([], ρ) := rfl
/-- operands that are no names -/
def opK (e : E) (es : Es) (ρ : DEnv) : R (List D × DEnv) := (ev G c e ρ).bind fun p => (evOps G c es p.2).bind fun q => .ok (p.1 :: q.1, q.2)
theorem qops_var (i : Nat) (es : Es) (ρ : DEnv) : evOps G c (.cons (.var i) es) ρ = (getV ρ i).bind fun _ => (evOps G c es ρ).bind fun p => (getV p.2 i).bind fun d => .ok (d :: p.1, p.2) := rfl
theorem ops_cst (d : D) (es : Es) (ρ : DEnv) : evOps G c (.cons (.cst d) es) ρ = (evOps G c es ρ).bind fun q => .ok (d :: q.1, q.2) := rfl
theorem ops_glo (g : Nat) (es : Es) (ρ : DEnv) : evOps G c (.cons (.glo g) es) ρ = (ev G c (.glo g) ρ).bind fun p => (evOps G c es p.2).bind fun q => .ok (p.1 :: q.1, q.2) := rfl
theorem ops_prim (p : Prim) (as es : Es) (ρ : DEnv) : evOps G c (.cons (.prim p as) es) ρ = (ev G c (.prim p as) ρ).bind fun p => (evOps G c es p.2).bind fun q => .ok (p.1 :: q.1, q.2) := rfl
theorem ops_bop (b : Bool) (as es : Es) (ρ : DEnv) : evOps G c (.cons (.bop b as) es) ρ = (ev G c (.bop b as) ρ).bind fun p => (evOps G c es p.2).bind fun q => .ok (p.1 :: q.1, q.2) := rfl
theorem ops_ife (t a b : E) (es : Es) (ρ : DEnv) : evOps G c (.cons (.ife t a b) es) ρ = (ev G c (.ife t a b) ρ).bind fun p => (evOps G c es p.2).bind fun q => .ok (p.1 :: q.1, q.2) := rfl
theorem ops_lst (as es : Es) (ρ : DEnv) : evOps G c (.cons (.lst as) es) ρ = (ev G c (.lst as) ρ).bind fun p => (evOps G c es p.2).bind fun q => .ok (p.1 :: q.1, q.2) := rfl
theorem ops_tup (as es : Es) (ρ : DEnv) : evOps G c (.cons (.tup as) es) ρ = (ev G c (.tup as) ρ).bind fun p => (evOps G c es p.2).bind fun q => .ok (p.1 :: q.1, q.2) := rfl
theorem ops_dct (es : Es) (ρ : DEnv) : evOps G c (.cons .dct es) ρ = (ev G c .dct ρ).bind fun p => (evOps G c es p.2).bind fun q => .ok (p.1 :: q.1, q.2) := rfl
theorem ops_chain (o1 o2 : Prim) (x y z : E) (es : Es) (ρ : DEnv) : evOps G c (.cons (.chain o1 o2 x y z) es) ρ = (ev G c (.chain o1 o2 x y z) ρ).bind fun p => (evOps G c es p.2).bind fun q => .ok (p.1 :: q.1, q.2) := rfl
theorem ops_call (f : Nat) (as es : Es) (ρ : DEnv) : evOps G c (.cons (.call f as) es) ρ = (ev G c (.call f as) ρ).bind fun p => (evOps G c es p.2).bind fun q => .ok (p.1 :: q.1, q.2) := rfl
theorem ops_callio (f i : Nat) (as es : Es) (ρ : DEnv) : evOps G c (.cons (.callio f i as) es) ρ = (ev G c (.callio f i as) ρ).bind fun p => (evOps G c es p.2).bind fun q => .ok (p.1 :: q.1, q.2) := rfl
theorem ops_comp (elt : E) (own : List Nat) (tg : Tg) (it : It) (ifs es : Es) (ρ : DEnv) : evOps G c (.cons (.comp elt own tg it ifs) es) ρ = (ev G c (.comp elt own tg it ifs) ρ).bind fun p => (evOps G c es p.2).bind fun q => .ok (p.1 :: q.1, q.2) := rfl
theorem evB_1 (b : Bool) (e : E) (ρ : DEnv) : evB G c b (.cons e .nil) ρ = ev G c e ρ := rfl
theorem evB_2 (b : Bool) (e e2 : E) (es : Es) (ρ : DEnv) : evB G c b (.cons e (.cons e2 es)) ρ = (ev G c e ρ).bind fun p => (truth p.1).bind fun k => if k = b then evB G c b (.cons e2 es) p.2 else .ok (p.1, p.2) := rfl
theorem ifs_nil (ρ : DEnv) : evIfs G c .nil ρ = .ok (true, ρ) := rfl
theorem ifs_cons (e : E) (es : Es) (ρ : DEnv) : evIfs G c (.cons e es) ρ = (ev G c e ρ).bind fun p => (truth p.1).bind fun k => if k then evIfs G c es p.2 else .ok (false, p.2) := rfl
theorem qit_over (e : E) (ρ : DEnv) : evIt G c (.over e) ρ = (ev G c e ρ).bind fun p => (itemsOf p.1).bind fun xs => .ok (xs, p.2) := rfl
theorem qit_range (as : Es) (ρ : DEnv) : evIt G c (.range as) ρ = (evOps G c as ρ).bind fun p => (rangeOf p.1).bind fun xs => .ok (xs, p.2) := rfl
theorem qit_enum (as : Es) (ρ : DEnv) : evIt G c (.enum as) ρ = (evs G c as ρ).bind fun p => (enumOf p.1).bind fun xs => .ok (xs, p.2) := rfl
theorem it_zips' (as : Es) (ρ : DEnv) : evIt G c (.zips as) ρ = (evs G c as ρ).bind fun p => (zipsOf p.1).bind fun xs => .ok (xs, p.2) := rfl
theorem qit_zip (as : Es) (ρ : DEnv) : evIt G c (.zip as) ρ = (evs G c as ρ).bind fun p => (zipOf p.1).bind fun xs => .ok (xs, p.2) := rfl
end

/-! ### a def's body -/
def finF (fd : FD) (o : Out) : R (D × Option D) := match o with
  | .rt d ρ => if fd.scal && !scalar d then .bad else if fd.io then (match ρ[0]? with | some (some g) => .ok (d, some g) | _ => .bad) else .ok (d, none)
  | .nx ρ => if fd.io then (match ρ[0]? with | some (some g) => .ok (.non, some g) | _ => .bad) else .ok (.non, none)
  | .ex k v => if fd.io then .bad else .ex k v
  | _ => .bad
theorem finF_io (fd : FD) (d g : D) (l : DEnv) (h : fd.io = true) (hs : fd.scal = false ∨ scalar d = true) : finF fd (.rt d (some g :: l)) = .ok (d, some g) := by
  simp only [finF, h]
  rcases hs with hs | hs <;> simp [hs]
theorem finF_nio (fd : FD) (d : D) (ρ : DEnv) (h : fd.io = false) (hs : fd.scal = false ∨ scalar d = true) : finF fd (.rt d ρ) = .ok (d, none) := by
  simp only [finF, h]
  rcases hs with hs | hs <;> simp [hs]
theorem finF_nx (fd : FD) (ρ : DEnv) (h : fd.io = false) : finF fd (.nx ρ) = .ok (.non, none) := by simp [finF, h]
theorem callD_s (P : Nat → Option FD) (G : Nat → R D) (wf n f : Nat) (fd : FD) (ds : List D) (h : P f = some fd) (hl : ds.length = fd.np) :
    callD P G wf (n + 1) f ds = finF fd (runs G (callD P G wf n) wf fd.body (ds.map some ++ List.replicate (fd.ns - ds.length) none)) := by
  show (match P f with | some fd => runF G (callD P G wf n) wf fd ds | none => .bad) = _
  rw [h]
  show runF G (callD P G wf n) wf fd ds = _
  unfold runF
  rw [if_pos hl]
  unfold finF
  cases runs G (callD P G wf n) wf fd.body (ds.map some ++ List.replicate (fd.ns - ds.length) none) <;> rfl

/-! ### loops -/
inductive All2 {α β : Type} (Q : α → β → Prop) : List α → List β → Prop
  | nil : All2 Q [] []
  | cons {a b l m} : Q a b → All2 Q l m → All2 Q (a :: l) (b :: m)
/-- one turn of a for -/
def turnF (set : D → DEnv → R DEnv) (body : DEnv → Out) (d : D) (ρ : DEnv) : Out := match (set d ρ).out body with
  | .ct ρ => .nx ρ
  | o => o
theorem forLoop_step (set : D → DEnv → R DEnv) (body : DEnv → Out) (d : D) (ds : List D) (ρ r1 : DEnv) (e1 : turnF set body d ρ = .nx r1) : forLoop set body (d :: ds) ρ = forLoop set body ds r1 := by
  unfold turnF at e1
  conv => lhs; unfold forLoop
  cases hs : set d ρ with
  | ok a =>
    rw [hs] at e1
    simp only [R.out_ok] at e1 ⊢
    cases hb : body a <;> rw [hb] at e1 <;> simp at e1 <;> simp [e1]
  | ex a b => rw [hs] at e1; simp at e1
  | bad => rw [hs] at e1; simp at e1
/-- a turn that ends the def -/
theorem forLoop_rt (set : D → DEnv → R DEnv) (body : DEnv → Out) (d x : D) (ds : List D) (ρ r1 : DEnv) (e1 : turnF set body d ρ = .rt x r1) : forLoop set body (d :: ds) ρ = .rt x r1 := by
  unfold turnF at e1
  conv => lhs; unfold forLoop
  cases hs : set d ρ with
  | ok a =>
    rw [hs] at e1
    simp only [R.out_ok] at e1 ⊢
    cases hb : body a <;> rw [hb] at e1 <;> simp at e1 <;> simp [e1]
  | ex a b => rw [hs] at e1; simp at e1
  | bad => rw [hs] at e1; simp at e1
theorem forLoop_inv (set : D → DEnv → R DEnv) (body : DEnv → Out) (I : Nat → DEnv → Prop) : ∀ (ds : List D) (k : Nat) (ρ : DEnv), I k ρ → (∀ j d r, ds[j]? = some d → I (k + j) r → ∃ r', turnF set body d r = .nx r' ∧ I (k + j + 1) r') →
    ∃ r', forLoop set body ds ρ = .nx r' ∧ I (k + ds.length) r'
  | [], k, ρ, h, _ => ⟨ρ, rfl, h⟩
  | d :: ds, k, ρ, h, st => by
    obtain ⟨r1, e1, h1⟩ := st 0 d ρ rfl h
    obtain ⟨r2, e2, h2⟩ := forLoop_inv set body I ds (k + 1) r1 h1 (fun j x r hj hr => by
      have := st (j + 1) x r hj (by rw [show k + (j + 1) = k + 1 + j by omega]; exact hr)
      rwa [show k + (j + 1) + 1 = k + 1 + j + 1 by omega] at this)
    refine ⟨r2, ?_, by rw [List.length_cons, show k + (ds.length + 1) = k + 1 + ds.length by omega]; exact h2⟩
    rw [← e2]
    exact forLoop_step _ _ _ _ _ _ e1
/-- a for over a state, each turn plain -/
theorem forLoop_fold {σ : Type} (set : D → DEnv → R DEnv) (body : DEnv → Out) (E : σ → DEnv) (f : σ → D → σ) (J : σ → Prop) : ∀ (ds : List D) (s : σ), J s → (∀ s, ∀ d ∈ ds, J s → J (f s d) ∧ turnF set body d (E s) = .nx (E (f s d))) → forLoop set body ds (E s) = .nx (E (ds.foldl f s)) ∧ J (ds.foldl f s)
  | [], s, h, _ => ⟨rfl, h⟩
  | d :: ds, s, h, st => by
    obtain ⟨h1, e1⟩ := st s d List.mem_cons_self h
    obtain ⟨e2, h2⟩ := forLoop_fold set body E f J ds (f s d) h1 (fun s x hx => st s x (List.mem_cons_of_mem _ hx))
    refine ⟨?_, h2⟩
    rw [List.foldl_cons, ← e2]
    exact forLoop_step _ _ _ _ _ _ e1

/-- one turn of a comprehension -/
def turnC (set : D → DEnv → R DEnv) (test : DEnv → R (Bool × DEnv)) (elt : DEnv → R (D × DEnv)) (d : D) (ρ : DEnv) : R (Option D × DEnv) :=
  (set d ρ).bind fun r => (test r).bind fun q => if q.1 then (elt q.2).bind fun p => .ok (some p.1, p.2) else .ok (none, q.2)
/-- what is gathered, and the state -/
def gather {σ : Type} (f : σ → D → Option D × σ) : σ → List D → List D × σ
  | s, [] => ([], s)
  | s, d :: ds => ((f s d).1.toList ++ (gather f (f s d).2 ds).1, (gather f (f s d).2 ds).2)
theorem compLoop_step (set : D → DEnv → R DEnv) (test : DEnv → R (Bool × DEnv)) (elt : DEnv → R (D × DEnv)) (d : D) (ds : List D) (ρ ρ1 : DEnv) (o : Option D) (h : turnC set test elt d ρ = .ok (o, ρ1)) :
    compLoop set test elt (d :: ds) ρ = (compLoop set test elt ds ρ1).bind fun q => .ok (o.toList ++ q.1, q.2) := by
  unfold turnC at h
  obtain ⟨r, e1, h⟩ := R.bind_eq_ok h
  obtain ⟨⟨b, r2⟩, e2, h⟩ := R.bind_eq_ok h
  conv => lhs; unfold compLoop
  rw [e1]; simp only [R.bind_ok]; rw [e2]; simp only [R.bind_ok]
  cases b with
  | true =>
    simp only [if_true] at h ⊢
    obtain ⟨⟨x, r3⟩, e3, h⟩ := R.bind_eq_ok h
    cases h
    rw [e3]; rfl
  | false =>
    simp only [Bool.false_eq_true, if_false] at h ⊢
    cases h
    cases compLoop set test elt ds ρ1 <;> rfl
theorem getD_set_ne {ρ : DEnv} {i j : Nat} {x : Option D} (h : i ≠ j) : (ρ.set i x)[j]? = ρ[j]? := by simp [List.getElem?_set, h]
theorem wipe_len : ∀ (own : List Nat) (ρ : DEnv), (wipeE own ρ).length = ρ.length
  | [], ρ => rfl
  | i :: own, ρ => by rw [wipeE, List.foldl_cons]; exact (wipe_len own _).trans (List.length_set ..)
theorem qwipe_get : ∀ (own : List Nat) (ρ : DEnv) (j : Nat), (wipeE own ρ)[j]? = if j ∈ own then (if j < ρ.length then some none else none) else ρ[j]?
  | [], ρ, j => by simp [wipeE]
  | i :: own, ρ, j => by
    rw [wipeE, List.foldl_cons]
    have := qwipe_get own (ρ.set i none) j
    rw [wipeE] at this
    rw [this]
    by_cases hj : j ∈ own
    · simp [hj]
    · by_cases hi : i = j
      · subst hi; simp [hj, List.getElem?_set]
      · have : ¬ j = i := fun e => hi e.symm
        simp [hj, hi, this, List.getElem?_set]
theorem rest_get (ρ0 : DEnv) : ∀ (own : List Nat) (ρ : DEnv) (j : Nat), (restore own ρ0 ρ)[j]? = if j ∈ own then (if j < ρ.length then some (ρ0.getD j none) else none) else ρ[j]?
  | [], ρ, j => by simp [restore]
  | i :: own, ρ, j => by
    rw [restore, List.foldl_cons]
    have := rest_get ρ0 own (ρ.set i (ρ0.getD i none)) j
    rw [restore] at this
    rw [this]
    by_cases hj : j ∈ own
    · simp [hj]
    · by_cases hi : i = j
      · subst hi; simp [hj, List.getElem?_set]
      · have : ¬ j = i := fun e => hi e.symm
        simp [hj, hi, this, List.getElem?_set]
theorem restore_of {own : List Nat} {ρ ρ0 r : DEnv} (h : wipeE own r = wipeE own ρ) (h0 : ∀ i ∈ own, ρ0.getD i none = ρ.getD i none) : restore own ρ0 r = ρ := by
  have hl : r.length = ρ.length := by rw [← wipe_len own r, h, wipe_len]
  apply List.ext_getElem?
  intro j
  rw [rest_get]
  by_cases hj : j ∈ own
  · rw [if_pos hj, h0 j hj, hl]
    by_cases hlt : j < ρ.length
    · rw [if_pos hlt, List.getD_eq_getElem?_getD, List.getElem?_eq_getElem hlt]; rfl
    · rw [if_neg hlt, List.getElem?_eq_none (by omega)]
  · rw [if_neg hj]
    have := congrArg (fun l => l[j]?) h
    simp only [qwipe_get, if_neg hj] at this
    exact this
theorem compLoop_fold {σ : Type} (tg : Tg) (own : List Nat) (test : DEnv → R (Bool × DEnv)) (elt : DEnv → R (D × DEnv)) (E : σ → DEnv) (f : σ → D → Option D × σ) (J : σ → Prop) :
    ∀ (ds : List D) (s : σ) (ρ : DEnv), wipeE own ρ = wipeE own (E s) → J s → (∀ s, ∀ d ∈ ds, J s → J (f s d).2 ∧ ∃ r', wipeE own r' = wipeE own (E (f s d).2) ∧ turnC (fun d r => tg.set d r) test elt d (wipeE own (E s)) = .ok ((f s d).1, r')) →
    ∃ r', compLoop (fun d r => tg.set d (wipeE own r)) test elt ds ρ = .ok ((gather f s ds).1, r') ∧ wipeE own r' = wipeE own (E (gather f s ds).2) ∧ J (gather f s ds).2
  | [], s, ρ, hw, h, _ => ⟨ρ, rfl, hw, h⟩
  | d :: ds, s, ρ, hw, h, st => by
    obtain ⟨h1, r1, w1, e1⟩ := st s d List.mem_cons_self h
    obtain ⟨r2, e2, w2, h2⟩ := compLoop_fold tg own test elt E f J ds (f s d).2 r1 w1 h1 (fun s x hx => st s x (List.mem_cons_of_mem _ hx))
    refine ⟨r2, ?_, w2, h2⟩
    rw [compLoop_step _ _ _ d ds ρ r1 (f s d).1 (by
      show turnC (fun d r => tg.set d r) test elt d (wipeE own ρ) = _
      rw [hw]; exact e1), e2]
    rfl
theorem gather_pure (f : D → Option D) : ∀ (ds : List D), gather (fun (_ : Unit) d => (f d, ())) () ds = (ds.filterMap f, ())
  | [] => rfl
  | d :: ds => by
    simp only [gather, gather_pure f ds, List.filterMap_cons]
    cases f d <;> rfl
section
variable {G : Nat → R D} {c : Callee}
/-- a comprehension whose state is the environment off its own slots -/
theorem comp_fold {σ : Type} (elt : E) (own : List Nat) (tg : Tg) (it : It) (ifs : Es) (ρ : DEnv) (ds : List D) (s : σ) (E : σ → DEnv) (f : σ → D → Option D × σ) (J : σ → Prop)
    (hi : evIt G c it ρ = .ok (ds, E s)) (hl : ds.length ≤ SZ) (h0 : ∀ s s', ∀ i ∈ own, (E s).getD i none = (E s').getD i none) (hJ : J s)
    (st : ∀ s, ∀ d ∈ ds, J s → J (f s d).2 ∧ ∃ r', wipeE own r' = wipeE own (E (f s d).2) ∧ turnC (fun d r => tg.set d r) (fun r => evIfs G c ifs r) (fun r => ev G c elt r) d (wipeE own (E s)) = .ok ((f s d).1, r')) :
    ev G c (.comp elt own tg it ifs) ρ = .ok (.list (gather f s ds).1, E (gather f s ds).2) ∧ J (gather f s ds).2 := by
  rw [ev_comp, hi, R.bind_ok]
  show (if ds.length ≤ SZ then _ else _) = _ ∧ _
  rw [if_pos hl]
  obtain ⟨r', e, w, j⟩ := compLoop_fold tg own (fun r => evIfs G c ifs r) (fun r => ev G c elt r) E f J ds s (E s) rfl hJ st
  refine ⟨?_, j⟩
  show (noex (compLoop _ _ _ ds (E s))).bind _ = _
  rw [e, noex_ok, R.bind_ok]
  show R.ok (D.list (gather f s ds).1, restore own (E s) r') = _
  rw [restore_of w (h0 _ _)]
/-- .. that changes nothing -/
theorem comp_pure (elt : E) (own : List Nat) (tg : Tg) (it : It) (ifs : Es) (ρ ρ1 : DEnv) (ds : List D) (f : D → Option D)
    (hi : evIt G c it ρ = .ok (ds, ρ1)) (hl : ds.length ≤ SZ)
    (st : ∀ d ∈ ds, ∃ r', wipeE own r' = wipeE own ρ1 ∧ turnC (fun d r => tg.set d r) (fun r => evIfs G c ifs r) (fun r => ev G c elt r) d (wipeE own ρ1) = .ok (f d, r')) :
    ev G c (.comp elt own tg it ifs) ρ = .ok (.list (ds.filterMap f), ρ1) := by
  have := (comp_fold elt own tg it ifs ρ ds () (fun _ => ρ1) (fun _ d => (f d, ())) (fun _ => True) hi hl (fun _ _ _ _ => rfl) trivial (fun _ d hd _ => ⟨trivial, st d hd⟩)).1
  rw [gather_pure] at this
  exact this
end

/-! ### built-ins -/
theorem truth_b (b : Bool) : truth (.bool b) = .ok b := rfl
theorem truth_i (i : Int) : truth (.int i) = .ok (i != 0) := rfl
theorem truth_n : truth .non = .ok false := rfl
theorem truth_l (xs : List D) : truth (.list xs) = .ok (!xs.isEmpty) := rfl
theorem p_add (a b : Int) : prim .add [.int a, .int b] = .ok (.int (a + b)) := rfl
theorem p_addl (xs ys : List D) (h : xs.length + ys.length ≤ 16777216) : prim .add [.list xs, .list ys] = .ok (.list (xs ++ ys)) := by
  show scOk .add (if xs.length + ys.length ≤ SZ then _ else _) = _
  rw [if_pos h]; rfl
theorem p_sub (a b : Int) : prim .sub [.int a, .int b] = .ok (.int (a - b)) := rfl
theorem p_mul (a b : Int) (h : (-(2 ^ 64) < a ∧ a < 2 ^ 64) ∨ (-(2 ^ 64) < b ∧ b < 2 ^ 64)) : prim .mul [.int a, .int b] = .ok (.int (a * b)) := by
  show scOk .mul (if small a || small b then _ else _) = _
  rw [if_pos (by simpa [small] using h)]; rfl
theorem p_mull (xs : List D) (n : Int) (h : -(2 ^ 63) ≤ n ∧ n < 2 ^ 63) (h2 : xs.length * n.toNat ≤ 16777216) : prim .mul [.list xs, .int n] = .ok (.list (List.replicate n.toNat xs).flatten) := by
  show scOk .mul (if decide (-(2 ^ 63) ≤ n ∧ n < 2 ^ 63) && decide (xs.length * n.toNat ≤ SZ) then _ else _) = _
  rw [if_pos (by rw [decide_eq_true h, decide_eq_true h2]; rfl)]; rfl
theorem p_div (a b : Int) (h : 0 < b ∧ b < 2 ^ 64) : prim .fdiv [.int a, .int b] = .ok (.int (a / b)) := by
  show scOk .fdiv (if divOk b then _ else _) = _
  rw [if_pos (by simpa [divOk] using h)]; rfl
theorem p_mod (a b : Int) (h : 0 < b) : prim .mod [.int a, .int b] = .ok (.int (a % b)) := by
  show scOk .mod (if 0 < b then _ else _) = _
  rw [if_pos h]; rfl
theorem p_pow (a b : Int) (h : 0 ≤ b) (h2 : b ≤ 1000) (h3 : a.natAbs < 2 ^ 1000) : prim .pow [.int a, .int b] = .ok (.int (a ^ b.toNat)) := by
  show scOk .pow (if decide (0 ≤ b) && decide (b ≤ 1000) && decide (a.natAbs < 2 ^ 1000) then _ else _) = _
  rw [if_pos (by simp [h, h2, h3])]; rfl
theorem p_neg (a : Int) : prim .neg [.int a] = .ok (.int (-a)) := rfl
theorem p_lt (a b : Int) : prim .lt [.int a, .int b] = .ok (.bool (decide (a < b))) := rfl
theorem p_le (a b : Int) : prim .le [.int a, .int b] = .ok (.bool (decide (a ≤ b))) := rfl
theorem p_gt (a b : Int) : prim .gt [.int a, .int b] = .ok (.bool (decide (b < a))) := rfl
theorem p_ge (a b : Int) : prim .ge [.int a, .int b] = .ok (.bool (decide (b ≤ a))) := rfl
theorem p_eq (a b : D) (h : shp 12 a = true) (h2 : shp 12 b = true) : prim .eq [a, b] = .ok (.bool (eqv a b)) := by
  show scOk .eq (if shp 12 a && shp 12 b then _ else _) = _
  rw [h, h2]; rfl
theorem p_ne (a b : D) (h : shp 12 a = true) (h2 : shp 12 b = true) : prim .ne [a, b] = .ok (.bool (!eqv a b)) := by
  show scOk .ne ((if shp 12 a && shp 12 b then _ else _ : R D).bind pNot) = _
  rw [h, h2]; rfl
theorem p_eqi (a b : Int) : prim .eq [.int a, .int b] = .ok (.bool (a == b)) := rfl
theorem p_nei (a b : Int) : prim .ne [.int a, .int b] = .ok (.bool (!(a == b))) := rfl
theorem p_eqb (a b : Bool) : prim .eq [.bool a, .bool b] = .ok (.bool (a == b)) := rfl
theorem p_neb (a b : Bool) : prim .ne [.bool a, .bool b] = .ok (.bool (!(a == b))) := rfl
theorem p_eqs (a b : Str) : prim .eq [.str a, .str b] = .ok (.bool (a == b)) := rfl
theorem p_nes (a b : Str) : prim .ne [.str a, .str b] = .ok (.bool (!(a == b))) := rfl
theorem p_notb (b : Bool) : prim .not [.bool b] = .ok (.bool (!b)) := rfl
theorem p_noti (i : Int) : prim .not [.int i] = .ok (.bool (!(i != 0))) := rfl
theorem p_isN (a : D) : prim .isq [a, .non] = .ok (.bool (isNon a)) := by cases a <;> rfl
theorem p_isnN (a : D) : prim .isnot [a, .non] = .ok (.bool (!isNon a)) := by cases a <;> rfl
theorem p_len (xs : List D) : prim .len [.list xs] = .ok (.int xs.length) := rfl
theorem p_lent (xs : List D) : prim .len [.tup xs] = .ok (.int xs.length) := rfl
theorem p_int (i : Int) : prim .intof [.int i] = .ok (.int i) := rfl
theorem p_intb (b : Bool) : prim .intof [.bool b] = .ok (.int (if b then 1 else 0)) := rfl
theorem p_isinst (t : Ty) (a : D) (h : plainD a = true) : prim (.isinst t) [a] = .ok (.bool (isTy t a)) := by
  show scOk (.isinst t) (if plainD a then _ else _) = _
  rw [h]; rfl
theorem pis_int (t : Ty) (i : Int) : prim (.isinst t) [.int i] = .ok (.bool (isTy t (.int i))) := rfl
theorem pis_bool (t : Ty) (i : Bool) : prim (.isinst t) [.bool i] = .ok (.bool (isTy t (.bool i))) := rfl
theorem pis_non (t : Ty) : prim (.isinst t) [.non] = .ok (.bool (isTy t .non)) := rfl
theorem pis_str (t : Ty) (i : Str) : prim (.isinst t) [.str i] = .ok (.bool (isTy t (.str i))) := rfl
theorem pis_list (t : Ty) (i : List D) : prim (.isinst t) [.list i] = .ok (.bool (isTy t (.list i))) := rfl
theorem pis_tup (t : Ty) (i : List D) : prim (.isinst t) [.tup i] = .ok (.bool (isTy t (.tup i))) := rfl
theorem pis_dict (t : Ty) (i j : List D) : prim (.isinst t) [.dict i j] = .ok (.bool (isTy t (.dict i j))) := rfl
theorem pis2_int (t u : Ty) (i : Int) : prim (.isinst2 t u) [.int i] = .ok (.bool (isTy t (.int i) || isTy u (.int i))) := rfl
theorem pis2_bool (t u : Ty) (i : Bool) : prim (.isinst2 t u) [.bool i] = .ok (.bool (isTy t (.bool i) || isTy u (.bool i))) := rfl
theorem pis2_list (t u : Ty) (i : List D) : prim (.isinst2 t u) [.list i] = .ok (.bool (isTy t (.list i) || isTy u (.list i))) := rfl
theorem shp_plain {n : Nat} {d : D} (h : shp n d = true) : plainD d = true := by
  cases d <;> first | rfl | (cases n <;> simp [shp] at h)
mutual
theorem shp_mono : ∀ {n m : Nat} {d : D}, n ≤ m → shp n d = true → shp m d = true
  | n, m, .non, _, _ => by cases m <;> rfl
  | n, m, .bool _, _, _ => by cases m <;> rfl
  | n, m, .int _, _, _ => by cases m <;> rfl
  | n, m, .str _, _, _ => by cases m <;> rfl
  | n + 1, m + 1, .list xs, h, k => by
    have := shps_mono (n := n) (m := m) (ds := xs) (by omega) (by simpa [shp] using k)
    simpa [shp] using this
  | n + 1, m + 1, .tup xs, h, k => by
    have := shps_mono (n := n) (m := m) (ds := xs) (by omega) (by simpa [shp] using k)
    simpa [shp] using this
  | 0, _, .list _, _, k => by simp [shp] at k
  | 0, _, .tup _, _, k => by simp [shp] at k
  | n + 1, 0, .list _, h, _ => by omega
  | n + 1, 0, .tup _, h, _ => by omega
  | n, _, .dict _ _, _, k => by cases n <;> simp [shp] at k
  | n, _, .fn _, _, k => by cases n <;> simp [shp] at k
  | n, _, .cls _, _, k => by cases n <;> simp [shp] at k
theorem shps_mono : ∀ {n m : Nat} {ds : List D}, n ≤ m → shps n ds = true → shps m ds = true
  | _, _, [], _, _ => by simp [shps]
  | n, m, d :: ds, h, k => by
    have h' : shp n d = true ∧ shps n ds = true := by simpa [shps] using k
    simp [shps, shp_mono h h'.1, shps_mono h h'.2]
end
theorem p_bitlen (i : Int) : prim .bitlen [.int i] = .ok (.int (Builtin.Int.intBits i : Nat)) := rfl
theorem p_abs (i : Int) : prim .abs [.int i] = .ok (.int (if i < 0 then -i else i)) := rfl
theorem p_max2 (a b : Int) : prim .max2 [.int a, .int b] = .ok (.int (if b > a then b else a)) := rfl
theorem p_min2 (a b : Int) : prim .min2 [.int a, .int b] = .ok (.int (if b < a then b else a)) := rfl
theorem p_rev (xs : List D) : prim .slR [.list xs] = .ok (.list xs.reverse) := rfl
theorem p_tupof (xs : List D) : prim .tupof [.list xs] = .ok (.tup xs) := rfl
theorem p_listof (xs : List D) : prim .listof [.list xs] = .ok (.list xs) := rfl
theorem p_idx (xs : List D) (i : Int) (d : D) (h : at? xs i = some d) : prim .idx [.list xs, .int i] = .ok d := by
  show scOk .idx (match at? xs i with | some d => .ok d | none => .bad) = _
  rw [h]; cases d <;> rfl
theorem p_idxt (xs : List D) (i : Int) (d : D) (h : at? xs i = some d) : prim .idx [.tup xs, .int i] = .ok d := by
  show scOk .idx (match at? xs i with | some d => .ok d | none => .bad) = _
  rw [h]; cases d <;> rfl
theorem p_slA (xs : List D) (i j : Int) : prim .slA [.list xs, .int i, .int j] = .ok (.list (cut xs (some i) (some j))) := rfl
theorem p_slL (xs : List D) (i : Int) : prim .slL [.list xs, .int i] = .ok (.list (cut xs (some i) none)) := rfl
theorem p_slH (xs : List D) (i : Int) : prim .slH [.list xs, .int i] = .ok (.list (cut xs none (some i))) := rfl
theorem p_slP (k : Nat) (xs : List D) (h : k ≠ 0) : prim (.slP k) [.list xs] = .ok (.list (pick3 xs none k)) := by
  show scOk (.slP k) (if k = 0 then .bad else _) = _
  rw [if_neg h]; rfl
theorem p_slP2 (k : Nat) (xs : List D) (i : Int) (h : k ≠ 0) : prim (.slP k) [.list xs, .int i] = .ok (.list (pick3 xs (some i) k)) := by
  show scOk (.slP k) (if k = 0 then .bad else _) = _
  rw [if_neg h]; rfl
theorem p_repr (a : D) (h : shp 12 a = true) (h2 : wt a ≤ 16777216) : prim .repr [a] = .ok (.str a.py.shown) := by
  show scOk .repr (pRepr a) = _
  have : pRepr a = .ok (.str a.py.shown) := by
    unfold pRepr
    split
    · simp [shp] at h
    · rw [h, if_pos (by simp [h2])]
  rw [this]; rfl
theorem p_repr0 : prim .repr [.dict [] []] = .ok (.str (PyData.shown (.dict []))) := rfl

/-! ### lists of ints -/
def dI (xs : List Int) : D := .list (xs.map D.int)
theorem intsD_map : ∀ xs : List Int, intsD (xs.map D.int) = some xs
  | [] => rfl
  | x :: xs => by simp [intsD, intsD_map xs]
theorem boolsD_map : ∀ xs : List Bool, boolsD (xs.map D.bool) = some xs
  | [] => rfl
  | x :: xs => by simp [boolsD, boolsD_map xs]
theorem listsOf_map : ∀ xs : List (List Int), listsOf (xs.map dI) = some (xs.map (·.map D.int))
  | [] => rfl
  | x :: xs => by simp [listsOf, listsOf_map xs, dI]
theorem shps_I : ∀ (n : Nat) (xs : List Int), shps n (xs.map D.int) = true
  | _, [] => rfl
  | n, x :: xs => by simp [shps, shp, shps_I n xs]
theorem shp_I (n : Nat) (xs : List Int) : shp (n + 1) (dI xs) = true := by simp only [dI, shp, shps_I]
theorem eqvs_I : ∀ (xs ys : List Int), eqvs (xs.map D.int) (ys.map D.int) = decide (xs = ys)
  | [], [] => rfl
  | [], y :: ys => rfl
  | x :: xs, [] => rfl
  | x :: xs, y :: ys => by
    simp only [List.map_cons, eqvs, eqv, eqvs_I xs ys]
    by_cases h : x = y <;> by_cases h2 : xs = ys <;> simp [h, h2]
theorem eqv_I (xs ys : List Int) : eqv (dI xs) (dI ys) = decide (xs = ys) := by simp only [dI, eqv, eqvs_I]
theorem wt_I {m : Nat} : ∀ xs : List Int, (∀ x ∈ xs, x.natAbs < 2 ^ 1000) → wts (xs.map D.int) ≤ 1004 * xs.length
  | [], _ => by simp [wts]
  | x :: xs, h => by
    have h1 := wt_I (m := m) xs (fun y hy => h y (List.mem_cons_of_mem _ hy))
    have h2 := h x List.mem_cons_self
    have h3 : x.natAbs.log2 < 1000 := by
      by_cases h0 : x.natAbs = 0
      · rw [h0]; decide
      · exact (Nat.log2_lt h0).mpr h2
    simp only [List.map_cons, wts, wt, List.length_cons]
    rw [if_pos (by omega)]
    omega
theorem p_lenI (xs : List Int) : prim .len [dI xs] = .ok (.int xs.length) := by rw [dI, p_len, List.length_map]
theorem p_sumI (xs : List Int) : prim .sum1 [dI xs] = .ok (.int xs.sum) := by
  show scOk .sum1 (match intsD (xs.map D.int) with | some ns => .ok (.int ns.sum) | none => .bad) = _
  rw [intsD_map]; rfl
theorem p_nuniqI (xs : List Int) (h : xs.Nodup) (hl : xs.length ≤ 4000) : prim .nuniq [.list (xs.map D.int)] = .ok (.int xs.length) := by
  show scOk .nuniq (match intsD (xs.map D.int) with | some ns => if decide ns.Nodup && decide (ns.length ≤ 4000) then .ok (.int ns.length) else .bad | none => .bad) = _
  rw [intsD_map]
  show scOk .nuniq (if decide xs.Nodup && decide (xs.length ≤ 4000) then _ else _) = _
  rw [decide_eq_true h, decide_eq_true hl]; rfl
theorem p_allb (xs : List Bool) : prim .all [.list (xs.map D.bool)] = .ok (.bool (xs.all id)) := by
  show scOk .all (match boolsD (xs.map D.bool) with | some ns => .ok (.bool (ns.all id)) | none => .bad) = _
  rw [boolsD_map]; rfl
theorem p_anyb (xs : List Bool) : prim .any [.list (xs.map D.bool)] = .ok (.bool (xs.any id)) := by
  show scOk .any (match boolsD (xs.map D.bool) with | some ns => .ok (.bool (ns.any id)) | none => .bad) = _
  rw [boolsD_map]; rfl
def gi (xs : List Int) (i : Int) : Int := xs.getD i.toNat 0
theorem p_idxI (xs : List Int) (i : Int) (h0 : 0 ≤ i) (h : i < xs.length) : prim .idx [dI xs, .int i] = .ok (.int (gi xs i)) := by
  refine p_idx _ _ _ ?_
  have h' : i.toNat < xs.length := by omega
  simp [at?, h0, gi, List.getD_eq_getElem?_getD, List.getElem?_eq_getElem h']
theorem p_lastI (xs : List Int) (a : Int) : prim .idx [dI (xs ++ [a]), .int (-1)] = .ok (.int a) := by
  refine p_idx _ _ _ ?_
  unfold at?
  rw [if_neg (by decide), if_pos (by simp; omega)]
  have e : (-1 + (((xs ++ [a]).map D.int).length : Int)).toNat = xs.length := by simp; omega
  rw [e]
  simp
theorem p_lastI' (xs : List Int) (h : xs ≠ []) : prim .idx [dI xs, .int (-1)] = .ok (.int (xs.getLastD 0)) := by
  obtain ⟨ys, a, rfl⟩ : ∃ ys a, xs = ys ++ [a] := ⟨xs.dropLast, xs.getLast h, (List.dropLast_concat_getLast h).symm⟩
  rw [p_lastI]; simp
theorem p_addI (xs ys : List Int) (h : xs.length + ys.length ≤ 16777216) : prim .add [dI xs, dI ys] = .ok (dI (xs ++ ys)) := by
  rw [dI, dI, p_addl _ _ (by simpa using h), dI, List.map_append]
theorem p_revI (xs : List Int) : prim .slR [dI xs] = .ok (dI xs.reverse) := by rw [dI, p_rev, dI, List.map_reverse]
theorem cut_map {α β : Type} (f : α → β) (xs : List α) (lo hi : Option Int) : cut (xs.map f) lo hi = (cut xs lo hi).map f := by
  simp [cut, List.map_take, List.map_drop]
theorem cut_to {α : Type} (xs : List α) (j : Int) (h : 0 ≤ j) : cut xs none (some j) = xs.take j.toNat := by
  simp only [cut, HT.sIx]
  rw [if_neg (by omega)]
  simp
theorem cut_from {α : Type} (xs : List α) (i : Int) (h : 0 ≤ i) : cut xs (some i) none = xs.drop i.toNat := by
  simp only [cut, HT.sIx]
  rw [if_neg (by omega)]
  by_cases hj : i.toNat ≤ xs.length
  · rw [Nat.min_eq_left hj, List.take_of_length_le (by simp)]
  · rw [Nat.min_eq_right (by omega)]; simp; omega
theorem p_slHI (xs : List Int) (i : Int) (h : 0 ≤ i) : prim .slH [dI xs, .int i] = .ok (dI (xs.take i.toNat)) := by rw [dI, p_slH, cut_map, cut_to _ _ h, dI]
theorem p_slLI (xs : List Int) (i : Int) (h : 0 ≤ i) : prim .slL [dI xs, .int i] = .ok (dI (xs.drop i.toNat)) := by rw [dI, p_slL, cut_map, cut_from _ _ h, dI]
theorem isTyI (xs : List Int) : isTy .list (dI xs) = true := rfl
theorem appI (xs : List Int) (a : Int) (h : xs.length < 16777216) : appD (dI xs) (.int a) = .ok (dI (xs ++ [a])) := by
  show (if (xs.map D.int).length < SZ then _ else _) = _
  rw [if_pos (by simpa using h)]; simp [dI]
theorem setI (xs : List Int) (i a : Int) (h0 : 0 ≤ i) (h : i < xs.length) : setIx (dI xs) (.int i) (.int a) = .ok (dI (xs.set i.toNat a)) := by
  show (match (if 0 ≤ i then (if i < (xs.map D.int).length then some i.toNat else none) else _ : Option Nat) with | some k => R.ok (D.list ((xs.map D.int).set k (.int a))) | none => .bad) = _
  rw [if_pos h0, if_pos (by simpa using h)]
  simp [dI]
theorem items_L (xs : List D) : itemsOf (.list xs) = .ok xs := rfl
theorem p_tupI (xs : List Int) : prim .tupof [dI xs] = .ok (.tup (xs.map D.int)) := rfl
theorem items_I (xs : List Int) : itemsOf (dI xs) = .ok (xs.map D.int) := rfl
theorem range_1 (j : Int) (h : 0 ≤ j) (h2 : j < 2 ^ 62) : rangeOf [.int j] = .ok ((List.range j.toNat).map fun (k : Nat) => D.int (k : Int)) := by
  show (if inR j then R.ok (rng 0 j) else .bad) = _
  rw [if_pos (by simp [inR]; omega), rng]
  simp
theorem range_2 (i j : Int) (h : -(2 ^ 62) ≤ i ∧ i < 2 ^ 62) (h2 : -(2 ^ 62) ≤ j ∧ j < 2 ^ 62) : rangeOf [.int i, .int j] = .ok (rng i j) := by
  show (if inR i && inR j then R.ok (rng i j) else .bad) = _
  rw [if_pos (by simp only [inR, Bool.and_eq_true, decide_eq_true_eq]; omega)]
theorem enum_I (xs : List Int) : enumOf [dI xs] = .ok (xs.zipIdx.map fun p => D.tup [.int p.2, .int p.1]) := by
  show R.ok _ = _
  rw [List.zipIdx_map, List.map_map]; rfl
theorem zip_L (xs ys : List D) : zipOf [.list xs, .list ys] = .ok ((xs.zip ys).map fun p => .tup [p.1, p.2]) := rfl
theorem zips_L (xs ys : List D) (h : xs.length = ys.length) : zipsOf [.list xs, .list ys] = .ok ((xs.zip ys).map fun p => .tup [p.1, p.2]) := by
  show (if xs.length = ys.length then _ else _) = _
  rw [if_pos h]
theorem zip_I (xs ys : List Int) : zipOf [dI xs, dI ys] = .ok ((xs.zip ys).map fun p => D.tup [.int p.1, .int p.2]) := by
  show R.ok _ = _
  rw [List.zip_map, List.map_map]; rfl

/-! ### a def's result -/
def Out.rtv : Out → Option D
  | .rt d _ => some d
  | _ => none
def Out.rtio : Out → Option (D × D)
  | .rt d (some g :: _) => some (d, g)
  | .nx (some g :: _) => some (.non, g)
  | _ => none
theorem rtv_rt (d : D) (ρ : DEnv) : (Out.rt d ρ).rtv = some d := rfl
theorem rtio_rt (d g : D) (ρ : DEnv) : (Out.rt d (some g :: ρ)).rtio = some (d, g) := rfl
theorem rtio_nx (g : D) (ρ : DEnv) : (Out.nx (some g :: ρ)).rtio = some (.non, g) := rfl
section
variable {P : Nat → Option FD} {G : Nat → R D} {wf n f : Nat} {fd : FD} {ds : List D} {d g : D} {ρ : DEnv}
theorem callD_v (h : P f = some fd) (hl : ds.length = fd.np) (he : ds.map some ++ List.replicate (fd.ns - ds.length) none = ρ) (hi : fd.io = false) (hs : fd.scal = false ∨ scalar d = true)
    (hb : (runs G (callD P G wf n) wf fd.body ρ).rtv = some d) : callD P G wf (n + 1) f ds = .ok (d, none) := by
  rw [callD_s P G wf n f fd ds h hl, he]
  cases ho : runs G (callD P G wf n) wf fd.body ρ <;> rw [ho] at hb <;> simp only [Out.rtv, reduceCtorEq, Option.some.injEq] at hb
  subst hb
  exact finF_nio _ _ _ hi hs
theorem callD_u (h : P f = some fd) (hl : ds.length = fd.np) (he : ds.map some ++ List.replicate (fd.ns - ds.length) none = ρ) (hi : fd.io = false) {ρ' : DEnv}
    (hb : runs G (callD P G wf n) wf fd.body ρ = .nx ρ') : callD P G wf (n + 1) f ds = .ok (.non, none) := by
  rw [callD_s P G wf n f fd ds h hl, he, hb]
  exact finF_nx _ _ hi
theorem callD_io (h : P f = some fd) (hl : ds.length = fd.np) (he : ds.map some ++ List.replicate (fd.ns - ds.length) none = ρ) (hi : fd.io = true) (hs : fd.scal = false ∨ scalar d = true)
    (hb : (runs G (callD P G wf n) wf fd.body ρ).rtio = some (d, g)) : callD P G wf (n + 1) f ds = .ok (d, some g) := by
  rw [callD_s P G wf n f fd ds h hl, he]
  cases ho : runs G (callD P G wf n) wf fd.body ρ with
  | rt x l =>
    rw [ho] at hb
    cases l with
    | nil => simp [Out.rtio] at hb
    | cons y l =>
      cases y with
      | none => simp [Out.rtio] at hb
      | some y =>
        rw [rtio_rt] at hb
        cases hb
        exact finF_io _ _ _ _ hi hs
  | nx l =>
    rw [ho] at hb
    cases l with
    | nil => simp [Out.rtio] at hb
    | cons y l =>
      cases y with
      | none => simp [Out.rtio] at hb
      | some y =>
        rw [rtio_nx] at hb
        cases hb
        simp [finF, hi]
  | bk l => rw [ho] at hb; simp [Out.rtio] at hb
  | ct l => rw [ho] at hb; simp [Out.rtio] at hb
  | ex a b => rw [ho] at hb; simp [Out.rtio] at hb
  | bad => rw [ho] at hb; simp [Out.rtio] at hb
end
theorem tg_1 (i : Nat) (d : D) (ρ : DEnv) : (Tg.one i).set d ρ = .ok (ρ.set i (some d)) := rfl
theorem tg_2 (i j : Nat) (a b : D) (ρ : DEnv) : (Tg.tup [i, j]).set (.tup [a, b]) ρ = .ok ((ρ.set i (some a)).set j (some b)) := rfl
theorem tg_3 (i j k : Nat) (a b c : D) (ρ : DEnv) : (Tg.tup [i, j, k]).set (.tup [a, b, c]) ρ = .ok (((ρ.set i (some a)).set j (some b)).set k (some c)) := rfl
theorem wipe_0 (ρ : DEnv) : wipeE [] ρ = ρ := rfl
theorem wipe_s (i : Nat) (own : List Nat) (ρ : DEnv) : wipeE (i :: own) ρ = wipeE own (ρ.set i none) := rfl
theorem isTyL (xs : List D) : isTy .list (.list xs) = true := rfl
theorem zipf_0 (ds : List D) (ρ : DEnv) : ((([] : List Nat).zip ds).foldl (fun r q => r.set q.1 (some q.2)) ρ : DEnv) = ρ := rfl
theorem zipf_s (i : Nat) (is : List Nat) (d : D) (ds : List D) (ρ : DEnv) : (((i :: is).zip (d :: ds)).foldl (fun r q => r.set q.1 (some q.2)) ρ : DEnv) = (is.zip ds).foldl (fun r q => r.set q.1 (some q.2)) (ρ.set i (some d)) := rfl
theorem at_0 (a : D) (l : List D) : at? (a :: l) 0 = some a := rfl
theorem at_1 (a b : D) (l : List D) : at? (a :: b :: l) 1 = some b := rfl
theorem at_2 (a b c : D) (l : List D) : at? (a :: b :: c :: l) 2 = some c := rfl
theorem p_idx0 (a : D) (l : List D) : prim .idx [.list (a :: l), .int 0] = .ok a := p_idx _ _ _ rfl
theorem p_idx1 (a b : D) (l : List D) : prim .idx [.list (a :: b :: l), .int 1] = .ok b := p_idx _ _ _ rfl
theorem p_idx2 (a b c : D) (l : List D) : prim .idx [.list (a :: b :: c :: l), .int 2] = .ok c := p_idx _ _ _ rfl
section
variable {G : Nat → R D} {c : Callee}
/-- a comprehension of draws: each item by a step that may fail to be a function -/
theorem comp_draw {σ : Type} (elt : E) (own : List Nat) (tg : Tg) (it : It) (ifs : Es) (ρ : DEnv) (E : σ → DEnv) (J : Nat → σ → Prop) (Q : D → D → Prop)
    (h0 : ∀ s s', ∀ i ∈ own, (E s).getD i none = (E s').getD i none)
    (st : ∀ k s d, J (k + 1) s → ∃ x s' r', Q d x ∧ J k s' ∧ wipeE own r' = wipeE own (E s') ∧ turnC (fun d r => tg.set d r) (fun r => evIfs G c ifs r) (fun r => ev G c elt r) d (wipeE own (E s)) = .ok (some x, r'))
    (ds : List D) (s : σ) (hi : evIt G c it ρ = .ok (ds, E s)) (hl : ds.length ≤ SZ) (k : Nat) (hJ : J (k + ds.length) s) :
    ∃ xs s', ev G c (.comp elt own tg it ifs) ρ = .ok (.list xs, E s') ∧ All2 Q ds xs ∧ J k s' := by
  have main : ∀ (ds : List D) (s : σ) (ρ : DEnv), wipeE own ρ = wipeE own (E s) → J (k + ds.length) s → ∃ xs s' r', compLoop (fun d r => tg.set d (wipeE own r)) (fun r => evIfs G c ifs r) (fun r => ev G c elt r) ds ρ = .ok (xs, r') ∧ wipeE own r' = wipeE own (E s') ∧ All2 Q ds xs ∧ J k s' := by
    intro ds
    induction ds with
    | nil => intro s ρ hw hJ; exact ⟨[], s, ρ, rfl, hw, .nil, hJ⟩
    | cons d ds ih =>
      intro s ρ hw hJ
      obtain ⟨x, s1, r1, q, j1, w1, e1⟩ := st (k + ds.length) s d hJ
      obtain ⟨xs, s2, r2, e2, w2, f2, j2⟩ := ih s1 r1 w1 j1
      refine ⟨x :: xs, s2, r2, ?_, w2, .cons q f2, j2⟩
      rw [compLoop_step _ _ _ d ds ρ r1 (some x) (by
        show turnC (fun d r => tg.set d r) _ _ d (wipeE own ρ) = _
        rw [hw]; exact e1), e2]
      rfl
  obtain ⟨xs, s', r', e, w, q, j⟩ := main ds s (E s) rfl hJ
  refine ⟨xs, s', ?_, q, j⟩
  rw [ev_comp, hi, R.bind_ok]
  show (if ds.length ≤ SZ then _ else _) = _
  rw [if_pos hl]
  show (noex (compLoop _ _ _ ds (E s))).bind _ = _
  rw [e, noex_ok, R.bind_ok]
  show R.ok (D.list xs, restore own (E s) r') = _
  rw [restore_of w (h0 _ _)]
/-- .. of items of a kind -/
theorem comp_draw2 {σ : Type} (elt : E) (own : List Nat) (tg : Tg) (it : It) (ifs : Es) (ρ : DEnv) (E : σ → DEnv) (J : Nat → σ → Prop) (Q : D → D → Prop) (P : D → Prop)
    (h0 : ∀ s s', ∀ i ∈ own, (E s).getD i none = (E s').getD i none)
    (st : ∀ k s d, P d → J (k + 1) s → ∃ x s' r', Q d x ∧ J k s' ∧ wipeE own r' = wipeE own (E s') ∧ turnC (fun d r => tg.set d r) (fun r => evIfs G c ifs r) (fun r => ev G c elt r) d (wipeE own (E s)) = .ok (some x, r'))
    (ds : List D) (hP : ∀ d ∈ ds, P d) (s : σ) (hi : evIt G c it ρ = .ok (ds, E s)) (hl : ds.length ≤ SZ) (k : Nat) (hJ : J (k + ds.length) s) :
    ∃ xs s', ev G c (.comp elt own tg it ifs) ρ = .ok (.list xs, E s') ∧ All2 Q ds xs ∧ J k s' := by
  have main : ∀ (ds : List D), (∀ d ∈ ds, P d) → ∀ (s : σ) (ρ : DEnv), wipeE own ρ = wipeE own (E s) → J (k + ds.length) s → ∃ xs s' r', compLoop (fun d r => tg.set d (wipeE own r)) (fun r => evIfs G c ifs r) (fun r => ev G c elt r) ds ρ = .ok (xs, r') ∧ wipeE own r' = wipeE own (E s') ∧ All2 Q ds xs ∧ J k s' := by
    intro ds
    induction ds with
    | nil => intro _ s ρ hw hJ; exact ⟨[], s, ρ, rfl, hw, .nil, hJ⟩
    | cons d ds ih =>
      intro hP s ρ hw hJ
      obtain ⟨x, s1, r1, q, j1, w1, e1⟩ := st (k + ds.length) s d (hP d List.mem_cons_self) hJ
      obtain ⟨xs, s2, r2, e2, w2, f2, j2⟩ := ih (fun x hx => hP x (List.mem_cons_of_mem _ hx)) s1 r1 w1 j1
      refine ⟨x :: xs, s2, r2, ?_, w2, .cons q f2, j2⟩
      rw [compLoop_step _ _ _ d ds ρ r1 (some x) (by
        show turnC (fun d r => tg.set d r) _ _ d (wipeE own ρ) = _
        rw [hw]; exact e1), e2]
      rfl
  obtain ⟨xs, s', r', e, w, q, j⟩ := main ds hP s (E s) rfl hJ
  refine ⟨xs, s', ?_, q, j⟩
  rw [ev_comp, hi, R.bind_ok]
  show (if ds.length ≤ SZ then _ else _) = _
  rw [if_pos hl]
  show (noex (compLoop _ _ _ ds (E s))).bind _ = _
  rw [e, noex_ok, R.bind_ok]
  show R.ok (D.list xs, restore own (E s) r') = _
  rw [restore_of w (h0 _ _)]
end
end Fh
end
section
set_option maxRecDepth 100000
set_option maxHeartbeats 200000
/-! The evaluator as a machine: each step stands at the head, what is to come is a word made of names. -/
namespace Fh
open PySem L2

section
variable {α : Type} (G : Nat → R D) (c : Callee) (wf : Nat)
def aE (e : E) (ρ : DEnv) (k : R (D × DEnv) → α) : α := k (ev G c e ρ)
def aS (es : Es) (ρ : DEnv) (k : R (List D × DEnv) → α) : α := k (evs G c es ρ)
def aO (es : Es) (ρ : DEnv) (k : R (List D × DEnv) → α) : α := k (evOps G c es ρ)
def aB (b : Bool) (es : Es) (ρ : DEnv) (k : R (D × DEnv) → α) : α := k (evB G c b es ρ)
def aF (es : Es) (ρ : DEnv) (k : R (Bool × DEnv) → α) : α := k (evIfs G c es ρ)
def aI (it : It) (ρ : DEnv) (k : R (List D × DEnv) → α) : α := k (evIt G c it ρ)
def aT (s : S) (ρ : DEnv) (k : Out → α) : α := k (run G c wf s ρ)
def aR (ss : Ss) (ρ : DEnv) (k : Out → α) : α := k (runs G c wf ss ρ)

def kV (r : R D) (ρ : DEnv) (k : R (D × DEnv) → α) : α := k (r.bind fun d => .ok (d, ρ))
def kPrim (p : Prim) (k : R (D × DEnv) → α) (r : R (List D × DEnv)) : α := k (r.bind fun q => (prim p q.1).bind fun d => .ok (d, q.2))
def kIfe (a b : E) (k : R (D × DEnv) → α) (r : R (D × DEnv)) : α := k (r.bind fun p => (truth p.1).bind fun t => if t then ev G c a p.2 else ev G c b p.2)
def kIft (t : R Bool) (a b : E) (ρ : DEnv) (k : R (D × DEnv) → α) : α := k (t.bind fun t => if t then ev G c a ρ else ev G c b ρ)
def kLst (k : R (D × DEnv) → α) (r : R (List D × DEnv)) : α := k (r.bind fun p => .ok (.list p.1, p.2))
def kTup (k : R (D × DEnv) → α) (r : R (List D × DEnv)) : α := k (r.bind fun p => .ok (.tup p.1, p.2))
def kCh1 (o1 o2 : Prim) (y z : E) (k : R (D × DEnv) → α) (r : R (D × DEnv)) : α := k (r.bind fun p => (ev G c y p.2).bind fun q => (prim o1 [p.1, q.1]).bind fun r => chainK r q.2 ((ev G c z q.2).bind fun t => (prim o2 [q.1, t.1]).bind fun r => .ok (r, t.2)))
def kCh2 (o1 o2 : Prim) (x : D) (z : E) (k : R (D × DEnv) → α) (r : R (D × DEnv)) : α := k (r.bind fun q => (prim o1 [x, q.1]).bind fun r => chainK r q.2 ((ev G c z q.2).bind fun t => (prim o2 [q.1, t.1]).bind fun r => .ok (r, t.2)))
def kCh3 (r : R D) (o2 : Prim) (y : D) (z : E) (ρ : DEnv) (k : R (D × DEnv) → α) : α := k (r.bind fun r => chainK r ρ ((ev G c z ρ).bind fun t => (prim o2 [y, t.1]).bind fun r => .ok (r, t.2)))
def kCh4 (o2 : Prim) (y : D) (k : R (D × DEnv) → α) (r : R (D × DEnv)) : α := k (r.bind fun t => (prim o2 [y, t.1]).bind fun r => .ok (r, t.2))
def kCall (f : Nat) (k : R (D × DEnv) → α) (r : R (List D × DEnv)) : α := k (r.bind fun p => (c f p.1).bind fun r => retN r p.2)
def kRet (r : R (D × Option D)) (ρ : DEnv) (k : R (D × DEnv) → α) : α := k (r.bind fun r => retN r ρ)
def kIo0 (r : R D) (f i : Nat) (as : Es) (ρ : DEnv) (k : R (D × DEnv) → α) : α := k (r.bind fun _ => (evOps G c as ρ).bind fun p => (getV p.2 i).bind fun g => if isTy .list g then (noex (c f (g :: p.1))).bind fun r => retIO r i p.2 else .bad)
def kIo1 (f i : Nat) (k : R (D × DEnv) → α) (r : R (List D × DEnv)) : α := k (r.bind fun p => (getV p.2 i).bind fun g => if isTy .list g then (noex (c f (g :: p.1))).bind fun r => retIO r i p.2 else .bad)
def kIo2 (r : R D) (f i : Nat) (ds : List D) (ρ : DEnv) (k : R (D × DEnv) → α) : α := k (r.bind fun g => if isTy .list g then (noex (c f (g :: ds))).bind fun r => retIO r i ρ else .bad)
def kRio (r : R (D × Option D)) (i : Nat) (ρ : DEnv) (k : R (D × DEnv) → α) : α := k ((noex r).bind fun r => retIO r i ρ)
def kQ1 (r : R D) (f : Nat) (j : Int) (ρ : DEnv) (k : R (D × DEnv) → α) : α := k (r.bind fun l => (prim .idx [l, .int j]).bind fun d => (noex (c f [d])).bind fun r => retN r ρ)
def kQ2 (r : R D) (f : Nat) (ρ : DEnv) (k : R (D × DEnv) → α) : α := k (r.bind fun d => (noex (c f [d])).bind fun r => retN r ρ)
def kQ3 (r : R (D × Option D)) (ρ : DEnv) (k : R (D × DEnv) → α) : α := k ((noex r).bind fun r => retN r ρ)
def kZ1 (f : Nat) (ρ : DEnv) (k : R (D × DEnv) → α) (r : R (List D × DEnv)) : α := k ((noex r).bind fun p => (noex (c f p.1)).bind fun r => retZ r ρ)
def kZ2 (r : R (D × Option D)) (ρ : DEnv) (k : R (D × DEnv) → α) : α := k ((noex r).bind fun r => retZ r ρ)
def kS1 (es : Es) (k : R (List D × DEnv) → α) (r : R (D × DEnv)) : α := k (r.bind fun p => (evs G c es p.2).bind fun q => .ok (p.1 :: q.1, q.2))
def kO1 (es : Es) (k : R (List D × DEnv) → α) (r : R (D × DEnv)) : α := k (r.bind fun p => (evOps G c es p.2).bind fun q => .ok (p.1 :: q.1, q.2))
def kC (d : D) (k : R (List D × DEnv) → α) (r : R (List D × DEnv)) : α := k (r.bind fun q => .ok (d :: q.1, q.2))
def kV1 (r : R D) (i : Nat) (es : Es) (ρ : DEnv) (k : R (List D × DEnv) → α) : α := k (r.bind fun _ => (evOps G c es ρ).bind fun p => (getV p.2 i).bind fun d => .ok (d :: p.1, p.2))
def kV2 (i : Nat) (k : R (List D × DEnv) → α) (r : R (List D × DEnv)) : α := k (r.bind fun p => (getV p.2 i).bind fun d => .ok (d :: p.1, p.2))
def kV3 (r : R D) (ds : List D) (ρ : DEnv) (k : R (List D × DEnv) → α) : α := k (r.bind fun d => .ok (d :: ds, ρ))
def kB1 (b : Bool) (es : Es) (k : R (D × DEnv) → α) (r : R (D × DEnv)) : α := k (r.bind fun p => (truth p.1).bind fun t => if t = b then evB G c b es p.2 else .ok (p.1, p.2))
def kB2 (t : R Bool) (b : Bool) (d : D) (es : Es) (ρ : DEnv) (k : R (D × DEnv) → α) : α := k (t.bind fun t => if t = b then evB G c b es ρ else .ok (d, ρ))
def kF1 (es : Es) (k : R (Bool × DEnv) → α) (r : R (D × DEnv)) : α := k (r.bind fun p => (truth p.1).bind fun t => if t then evIfs G c es p.2 else .ok (false, p.2))
def kF2 (t : R Bool) (es : Es) (ρ : DEnv) (k : R (Bool × DEnv) → α) : α := k (t.bind fun t => if t then evIfs G c es ρ else .ok (false, ρ))
def kOver (k : R (List D × DEnv) → α) (r : R (D × DEnv)) : α := k (r.bind fun p => (itemsOf p.1).bind fun xs => .ok (xs, p.2))
def kRange (k : R (List D × DEnv) → α) (r : R (List D × DEnv)) : α := k (r.bind fun p => (rangeOf p.1).bind fun xs => .ok (xs, p.2))
def kEnum (k : R (List D × DEnv) → α) (r : R (List D × DEnv)) : α := k (r.bind fun p => (enumOf p.1).bind fun xs => .ok (xs, p.2))
def kZip (k : R (List D × DEnv) → α) (r : R (List D × DEnv)) : α := k (r.bind fun p => (zipOf p.1).bind fun xs => .ok (xs, p.2))
def kZips (k : R (List D × DEnv) → α) (r : R (List D × DEnv)) : α := k (r.bind fun p => (zipsOf p.1).bind fun xs => .ok (xs, p.2))
def kXs (r : R (List D)) (ρ : DEnv) (k : R (List D × DEnv) → α) : α := k (r.bind fun xs => .ok (xs, ρ))
def kSeq (ss : Ss) (k : Out → α) (o : Out) : α := match o with
  | .nx ρ => k (runs G c wf ss ρ)
  | o => k o
def kAsg (i : Nat) (k : Out → α) (r : R (D × DEnv)) : α := k (r.out fun p => .nx (p.2.set i (some p.1)))
def kAsgT (is : List Nat) (k : Out → α) (r : R (D × DEnv)) : α := k (r.out fun p => ((Tg.tup is).set p.1 p.2).out fun r => .nx r)
def kEnv (r : R DEnv) (k : Out → α) : α := k (r.out fun r => .nx r)
def kPar (is : List Nat) (k : Out → α) (r : R (List D × DEnv)) : α := k (r.out fun p => .nx ((is.zip p.1).foldl (fun r q => r.set q.1 (some q.2)) p.2))
def kSt1 (i : Nat) (ix : E) (k : Out → α) (r : R (D × DEnv)) : α := k (r.out fun p => (getV p.2 i).out fun _ => (ev G c ix p.2).out fun q => (getV q.2 i).out fun l => (setIx l q.1 p.1).out fun l' => .nx (q.2.set i (some l')))
def kSt2 (r : R D) (i : Nat) (ix : E) (v : D) (ρ : DEnv) (k : Out → α) : α := k (r.out fun _ => (ev G c ix ρ).out fun q => (getV q.2 i).out fun l => (setIx l q.1 v).out fun l' => .nx (q.2.set i (some l')))
def kSt3 (i : Nat) (v : D) (k : Out → α) (r : R (D × DEnv)) : α := k (r.out fun q => (getV q.2 i).out fun l => (setIx l q.1 v).out fun l' => .nx (q.2.set i (some l')))
def kSt4 (r : R D) (i : Nat) (j v : D) (ρ : DEnv) (k : Out → α) : α := k (r.out fun l => (setIx l j v).out fun l' => .nx (ρ.set i (some l')))
def kPut (r : R D) (i : Nat) (ρ : DEnv) (k : Out → α) : α := k (r.out fun l' => .nx (ρ.set i (some l')))
def kAp1 (r : R D) (i : Nat) (e : E) (ρ : DEnv) (k : Out → α) : α := k (r.out fun l0 => if !isTy .list l0 then .bad else (ev G c e ρ).out fun p => (getV p.2 i).out fun l => (appD l p.1).out fun l' => .nx (p.2.set i (some l')))
def kAp2 (i : Nat) (k : Out → α) (r : R (D × DEnv)) : α := k (r.out fun p => (getV p.2 i).out fun l => (appD l p.1).out fun l' => .nx (p.2.set i (some l')))
def kAp3 (r : R D) (i : Nat) (v : D) (ρ : DEnv) (k : Out → α) : α := k (r.out fun l => (appD l v).out fun l' => .nx (ρ.set i (some l')))
def kIn1 (r : R D) (i : Nat) (ix e : E) (ρ : DEnv) (k : Out → α) : α := k (r.out fun l0 => if !isTy .list l0 then .bad else (ev G c ix ρ).out fun q => (ev G c e q.2).out fun p => (getV p.2 i).out fun l => (insD l q.1 p.1).out fun l' => .nx (p.2.set i (some l')))
def kIn2 (i : Nat) (e : E) (k : Out → α) (r : R (D × DEnv)) : α := k (r.out fun q => (ev G c e q.2).out fun p => (getV p.2 i).out fun l => (insD l q.1 p.1).out fun l' => .nx (p.2.set i (some l')))
def kIn3 (i : Nat) (j : D) (k : Out → α) (r : R (D × DEnv)) : α := k (r.out fun p => (getV p.2 i).out fun l => (insD l j p.1).out fun l' => .nx (p.2.set i (some l')))
def kIn4 (r : R D) (i : Nat) (j v : D) (ρ : DEnv) (k : Out → α) : α := k (r.out fun l => (insD l j v).out fun l' => .nx (ρ.set i (some l')))
def kSpo (r : R D) (i : Nat) (p : List Int) (ρ : DEnv) (k : Out → α) : α := k (r.out fun l => if pathOk l p then .nx (ρ.set i none) else .bad)
def kExp (k : Out → α) (r : R (D × DEnv)) : α := k (r.out fun p => .nx p.2)
def kIte (a b : Ss) (k : Out → α) (r : R (D × DEnv)) : α := k (r.out fun p => (truth p.1).out fun t => if t then runs G c wf a p.2 else runs G c wf b p.2)
def kItt (t : R Bool) (a b : Ss) (ρ : DEnv) (k : Out → α) : α := k (t.out fun t => if t then runs G c wf a ρ else runs G c wf b ρ)
def kFor (tg : Tg) (b : Ss) (k : Out → α) (r : R (List D × DEnv)) : α := k (r.out fun p => forLoop tg.set (fun r => runs G c wf b r) p.1 p.2)
def kRt (k : Out → α) (r : R (D × DEnv)) : α := k (r.out fun p => .rt p.1 p.2)
def kRv (r : R D) (i : Nat) (ρ : DEnv) (k : Out → α) : α := k (r.out fun d => .rt d (ρ.set i none))
/-- the end of a turn of a for -/
def kTurn (o : Out) : Out := match o with
  | .ct ρ => .nx ρ
  | o => o
/-- the end of a turn of a comprehension -/
def kSome (r : R (D × DEnv)) : R (Option D × DEnv) := r.bind fun p => .ok (some p.1, p.2)
def kElt (elt : E) (r : R (Bool × DEnv)) : R (Option D × DEnv) := r.bind fun q => if q.1 then (ev G c elt q.2).bind fun p => .ok (some p.1, p.2) else .ok (none, q.2)
end

section
variable {α : Type} {G : Nat → R D} {c : Callee} {wf : Nat}
theorem aE_of {e : E} {ρ : DEnv} {r : R (D × DEnv)} (h : ev G c e ρ = r) (k : R (D × DEnv) → α) : aE G c e ρ k = k r := by rw [aE, h]
theorem aT_of {s : S} {ρ : DEnv} {r : Out} (h : run G c wf s ρ = r) (k : Out → α) : aT G c wf s ρ k = k r := by rw [aT, h]
theorem qm_cst (d : D) (ρ : DEnv) (k : R (D × DEnv) → α) : aE G c (.cst d) ρ k = k (.ok (d, ρ)) := rfl
theorem qm_var (i : Nat) (ρ : DEnv) (k : R (D × DEnv) → α) : aE G c (.var i) ρ k = kV (getV ρ i) ρ k := rfl
theorem qm_glo (g : Nat) (ρ : DEnv) (k : R (D × DEnv) → α) : aE G c (.glo g) ρ k = kV (G g) ρ k := rfl
theorem m_kV (d : D) (ρ : DEnv) (k : R (D × DEnv) → α) : kV (.ok d) ρ k = k (.ok (d, ρ)) := rfl
theorem qm_prim (p : Prim) (as : Es) (ρ : DEnv) (k : R (D × DEnv) → α) : aE G c (.prim p as) ρ k = aO G c as ρ (kPrim p k) := rfl
theorem m_kPrim (p : Prim) (ds : List D) (ρ : DEnv) (k : R (D × DEnv) → α) : kPrim p k (.ok (ds, ρ)) = kV (prim p ds) ρ k := rfl
theorem qm_bop (b : Bool) (as : Es) (ρ : DEnv) (k : R (D × DEnv) → α) : aE G c (.bop b as) ρ k = aB G c b as ρ k := rfl
theorem qm_ife (t a b : E) (ρ : DEnv) (k : R (D × DEnv) → α) : aE G c (.ife t a b) ρ k = aE G c t ρ (kIfe G c a b k) := rfl
theorem m_kIfe (a b : E) (d : D) (ρ : DEnv) (k : R (D × DEnv) → α) : kIfe G c a b k (.ok (d, ρ)) = kIft G c (truth d) a b ρ k := rfl
theorem m_kIfeT (a b : E) (ρ : DEnv) (k : R (D × DEnv) → α) : kIft G c (.ok true) a b ρ k = aE G c a ρ k := rfl
theorem m_kIfeF (a b : E) (ρ : DEnv) (k : R (D × DEnv) → α) : kIft G c (.ok false) a b ρ k = aE G c b ρ k := rfl
theorem qm_lst (as : Es) (ρ : DEnv) (k : R (D × DEnv) → α) : aE G c (.lst as) ρ k = aS G c as ρ (kLst k) := rfl
theorem qm_tup (as : Es) (ρ : DEnv) (k : R (D × DEnv) → α) : aE G c (.tup as) ρ k = aS G c as ρ (kTup k) := rfl
theorem m_kLst (ds : List D) (ρ : DEnv) (k : R (D × DEnv) → α) : kLst k (.ok (ds, ρ)) = k (.ok (.list ds, ρ)) := rfl
theorem m_kTup (ds : List D) (ρ : DEnv) (k : R (D × DEnv) → α) : kTup k (.ok (ds, ρ)) = k (.ok (.tup ds, ρ)) := rfl
theorem qm_dct (ρ : DEnv) (k : R (D × DEnv) → α) : aE G c .dct ρ k = k (.ok (.dict [] [], ρ)) := rfl
theorem qm_chain (o1 o2 : Prim) (x y z : E) (ρ : DEnv) (k : R (D × DEnv) → α) : aE G c (.chain o1 o2 x y z) ρ k = aE G c x ρ (kCh1 G c o1 o2 y z k) := by rw [aE, ev_chain]; rfl
theorem m_kCh1 (o1 o2 : Prim) (y z : E) (d : D) (ρ : DEnv) (k : R (D × DEnv) → α) : kCh1 G c o1 o2 y z k (.ok (d, ρ)) = aE G c y ρ (kCh2 G c o1 o2 d z k) := rfl
theorem m_kCh2 (o1 o2 : Prim) (x : D) (z : E) (d : D) (ρ : DEnv) (k : R (D × DEnv) → α) : kCh2 G c o1 o2 x z k (.ok (d, ρ)) = kCh3 G c (prim o1 [x, d]) o2 d z ρ k := rfl
theorem m_kCh3T (o2 : Prim) (y : D) (z : E) (ρ : DEnv) (k : R (D × DEnv) → α) : kCh3 G c (.ok (.bool true)) o2 y z ρ k = aE G c z ρ (kCh4 o2 y k) := rfl
theorem m_kCh3F (o2 : Prim) (y : D) (z : E) (ρ : DEnv) (k : R (D × DEnv) → α) : kCh3 G c (.ok (.bool false)) o2 y z ρ k = k (.ok (.bool false, ρ)) := rfl
theorem m_kCh4 (o2 : Prim) (y d : D) (ρ : DEnv) (k : R (D × DEnv) → α) : kCh4 o2 y k (.ok (d, ρ)) = kV (prim o2 [y, d]) ρ k := rfl
theorem qm_call (f : Nat) (as : Es) (ρ : DEnv) (k : R (D × DEnv) → α) : aE G c (.call f as) ρ k = aO G c as ρ (kCall c f k) := by rw [aE, ev_call]; rfl
theorem m_kCall (f : Nat) (ds : List D) (ρ : DEnv) (k : R (D × DEnv) → α) : kCall c f k (.ok (ds, ρ)) = kRet (c f ds) ρ k := rfl
theorem m_kRet (d : D) (ρ : DEnv) (k : R (D × DEnv) → α) : kRet (.ok (d, none)) ρ k = k (.ok (d, ρ)) := rfl
theorem m_kRetX (x : Nat) (d : D) (ρ : DEnv) (k : R (D × DEnv) → α) : kRet (.ex x d) ρ k = k (.ex x d) := rfl
theorem qm_callio (f i : Nat) (as : Es) (ρ : DEnv) (k : R (D × DEnv) → α) : aE G c (.callio f i as) ρ k = kIo0 G c (getV ρ i) f i as ρ k := by rw [aE, ev_callio]; rfl
theorem m_kIo0 (d : D) (f i : Nat) (as : Es) (ρ : DEnv) (k : R (D × DEnv) → α) : kIo0 G c (.ok d) f i as ρ k = aO G c as ρ (kIo1 c f i k) := rfl
theorem m_kIo1 (f i : Nat) (ds : List D) (ρ : DEnv) (k : R (D × DEnv) → α) : kIo1 c f i k (.ok (ds, ρ)) = kIo2 c (getV ρ i) f i ds ρ k := rfl
theorem m_kIo2 (g : D) (f i : Nat) (ds : List D) (ρ : DEnv) (k : R (D × DEnv) → α) (h : isTy .list g = true) : kIo2 c (.ok g) f i ds ρ k = kRio (c f (g :: ds)) i ρ k := by
  rw [kIo2, R.bind_ok, h]; rfl
theorem m_kIo2L (xs : List D) (f i : Nat) (ds : List D) (ρ : DEnv) (k : R (D × DEnv) → α) : kIo2 c (.ok (.list xs)) f i ds ρ k = kRio (c f (.list xs :: ds)) i ρ k := rfl
theorem m_kIo2I (xs : List Int) (f i : Nat) (ds : List D) (ρ : DEnv) (k : R (D × DEnv) → α) : kIo2 c (.ok (dI xs)) f i ds ρ k = kRio (c f (dI xs :: ds)) i ρ k := rfl
theorem m_kRio (d g : D) (i : Nat) (ρ : DEnv) (k : R (D × DEnv) → α) : kRio (.ok (d, some g)) i ρ k = k (.ok (d, ρ.set i (some g))) := rfl
theorem m_callq' (f i : Nat) (j : Int) (ρ : DEnv) (k : R (D × DEnv) → α) : aE G c (.callq f i j) ρ k = kQ1 c (getV ρ i) f j ρ k := by
  rw [aE, ev_callq]; rfl
theorem m_kQ1 (l : D) (f : Nat) (j : Int) (ρ : DEnv) (k : R (D × DEnv) → α) : kQ1 c (.ok l) f j ρ k = kQ2 c (prim .idx [l, .int j]) f ρ k := rfl
theorem m_kQ2 (d : D) (f : Nat) (ρ : DEnv) (k : R (D × DEnv) → α) : kQ2 c (.ok d) f ρ k = kQ3 (c f [d]) ρ k := rfl
theorem m_kQ3 (d : D) (ρ : DEnv) (k : R (D × DEnv) → α) : kQ3 (.ok (d, none)) ρ k = k (.ok (d, ρ)) := rfl
theorem m_callz' (f : Nat) (as : Es) (ρ : DEnv) (k : R (D × DEnv) → α) : aE G c (.callz f as) ρ k = aO G c as ρ (kZ1 c f ρ k) := by
  rw [aE, ev_callz]; rfl
theorem m_kZ1 (f : Nat) (ρ0 : DEnv) (ds : List D) (ρ : DEnv) (k : R (D × DEnv) → α) : kZ1 c f ρ0 k (.ok (ds, ρ)) = kZ2 (c f ds) ρ0 k := rfl
theorem m_kZ2b (b : Bool) (ρ : DEnv) (k : R (D × DEnv) → α) : kZ2 (.ok (.bool b, none)) ρ k = k (.ok (.bool b, ρ)) := rfl
theorem m_kZ2i (b : Int) (ρ : DEnv) (k : R (D × DEnv) → α) : kZ2 (.ok (.int b, none)) ρ k = k (.ok (.int b, ρ)) := rfl
theorem m_evs0 (ρ : DEnv) (k : R (List D × DEnv) → α) : aS G c .nil ρ k = k (.ok ([], ρ)) := rfl
theorem m_evs1 (e : E) (es : Es) (ρ : DEnv) (k : R (List D × DEnv) → α) : aS G c (.cons e es) ρ k = aE G c e ρ (kS1 G c es k) := rfl
theorem m_kS1 (es : Es) (d : D) (ρ : DEnv) (k : R (List D × DEnv) → α) : kS1 G c es k (.ok (d, ρ)) = aS G c es ρ (kC d k) := rfl
theorem m_kC (d : D) (ds : List D) (ρ : DEnv) (k : R (List D × DEnv) → α) : kC d k (.ok (ds, ρ)) = k (.ok (d :: ds, ρ)) := rfl
theorem m_o0 (ρ : DEnv) (k : R (List D × DEnv) → α) : aO G c .nil ρ k = k (.ok ([], ρ)) := rfl
theorem m_ovar (i : Nat) (es : Es) (ρ : DEnv) (k : R (List D × DEnv) → α) : aO G c (.cons (.var i) es) ρ k = kV1 G c (getV ρ i) i es ρ k := rfl
theorem m_kV1 (d : D) (i : Nat) (es : Es) (ρ : DEnv) (k : R (List D × DEnv) → α) : kV1 G c (.ok d) i es ρ k = aO G c es ρ (kV2 i k) := rfl
theorem m_kV2 (i : Nat) (ds : List D) (ρ : DEnv) (k : R (List D × DEnv) → α) : kV2 i k (.ok (ds, ρ)) = kV3 (getV ρ i) ds ρ k := rfl
theorem m_kV3 (d : D) (ds : List D) (ρ : DEnv) (k : R (List D × DEnv) → α) : kV3 (.ok d) ds ρ k = k (.ok (d :: ds, ρ)) := rfl
theorem m_ocst (d : D) (es : Es) (ρ : DEnv) (k : R (List D × DEnv) → α) : aO G c (.cons (.cst d) es) ρ k = aO G c es ρ (kC d k) := rfl
theorem m_oglo (g : Nat) (es : Es) (ρ : DEnv) (k : R (List D × DEnv) → α) : aO G c (.cons (.glo g) es) ρ k = aE G c (.glo g) ρ (kO1 G c es k) := rfl
theorem m_oprim (p : Prim) (as es : Es) (ρ : DEnv) (k : R (List D × DEnv) → α) : aO G c (.cons (.prim p as) es) ρ k = aE G c (.prim p as) ρ (kO1 G c es k) := rfl
theorem m_obop (b : Bool) (as es : Es) (ρ : DEnv) (k : R (List D × DEnv) → α) : aO G c (.cons (.bop b as) es) ρ k = aE G c (.bop b as) ρ (kO1 G c es k) := rfl
theorem m_oife (t a b : E) (es : Es) (ρ : DEnv) (k : R (List D × DEnv) → α) : aO G c (.cons (.ife t a b) es) ρ k = aE G c (.ife t a b) ρ (kO1 G c es k) := rfl
theorem m_olst (as es : Es) (ρ : DEnv) (k : R (List D × DEnv) → α) : aO G c (.cons (.lst as) es) ρ k = aE G c (.lst as) ρ (kO1 G c es k) := rfl
theorem m_otup (as es : Es) (ρ : DEnv) (k : R (List D × DEnv) → α) : aO G c (.cons (.tup as) es) ρ k = aE G c (.tup as) ρ (kO1 G c es k) := rfl
theorem m_odct (es : Es) (ρ : DEnv) (k : R (List D × DEnv) → α) : aO G c (.cons .dct es) ρ k = aE G c .dct ρ (kO1 G c es k) := rfl
theorem m_ochain (o1 o2 : Prim) (x y z : E) (es : Es) (ρ : DEnv) (k : R (List D × DEnv) → α) : aO G c (.cons (.chain o1 o2 x y z) es) ρ k = aE G c (.chain o1 o2 x y z) ρ (kO1 G c es k) := rfl
theorem m_ocall (f : Nat) (as es : Es) (ρ : DEnv) (k : R (List D × DEnv) → α) : aO G c (.cons (.call f as) es) ρ k = aE G c (.call f as) ρ (kO1 G c es k) := rfl
theorem m_ocallio (f i : Nat) (as es : Es) (ρ : DEnv) (k : R (List D × DEnv) → α) : aO G c (.cons (.callio f i as) es) ρ k = aE G c (.callio f i as) ρ (kO1 G c es k) := rfl
theorem m_ocallq (f i : Nat) (j : Int) (es : Es) (ρ : DEnv) (k : R (List D × DEnv) → α) : aO G c (.cons (.callq f i j) es) ρ k = aE G c (.callq f i j) ρ (kO1 G c es k) := rfl
theorem m_ocallz (f : Nat) (as es : Es) (ρ : DEnv) (k : R (List D × DEnv) → α) : aO G c (.cons (.callz f as) es) ρ k = aE G c (.callz f as) ρ (kO1 G c es k) := rfl
theorem m_ocomp (elt : E) (own : List Nat) (tg : Tg) (it : It) (ifs es : Es) (ρ : DEnv) (k : R (List D × DEnv) → α) : aO G c (.cons (.comp elt own tg it ifs) es) ρ k = aE G c (.comp elt own tg it ifs) ρ (kO1 G c es k) := rfl
theorem m_kO1 (es : Es) (d : D) (ρ : DEnv) (k : R (List D × DEnv) → α) : kO1 G c es k (.ok (d, ρ)) = aO G c es ρ (kC d k) := rfl
theorem m_b1 (b : Bool) (e : E) (ρ : DEnv) (k : R (D × DEnv) → α) : aB G c b (.cons e .nil) ρ k = aE G c e ρ k := rfl
theorem m_b2 (b : Bool) (e e2 : E) (es : Es) (ρ : DEnv) (k : R (D × DEnv) → α) : aB G c b (.cons e (.cons e2 es)) ρ k = aE G c e ρ (kB1 G c b (.cons e2 es) k) := rfl
theorem m_kB1 (b : Bool) (es : Es) (d : D) (ρ : DEnv) (k : R (D × DEnv) → α) : kB1 G c b es k (.ok (d, ρ)) = kB2 G c (truth d) b d es ρ k := rfl
theorem m_kBtt (d : D) (es : Es) (ρ : DEnv) (k : R (D × DEnv) → α) : kB2 G c (.ok true) true d es ρ k = aB G c true es ρ k := rfl
theorem m_kBff (d : D) (es : Es) (ρ : DEnv) (k : R (D × DEnv) → α) : kB2 G c (.ok false) false d es ρ k = aB G c false es ρ k := rfl
theorem m_kBtf (d : D) (es : Es) (ρ : DEnv) (k : R (D × DEnv) → α) : kB2 G c (.ok true) false d es ρ k = k (.ok (d, ρ)) := rfl
theorem m_kBft (d : D) (es : Es) (ρ : DEnv) (k : R (D × DEnv) → α) : kB2 G c (.ok false) true d es ρ k = k (.ok (d, ρ)) := rfl
theorem m_f0 (ρ : DEnv) (k : R (Bool × DEnv) → α) : aF G c .nil ρ k = k (.ok (true, ρ)) := rfl
theorem m_f1 (e : E) (es : Es) (ρ : DEnv) (k : R (Bool × DEnv) → α) : aF G c (.cons e es) ρ k = aE G c e ρ (kF1 G c es k) := rfl
theorem m_kF1 (es : Es) (d : D) (ρ : DEnv) (k : R (Bool × DEnv) → α) : kF1 G c es k (.ok (d, ρ)) = kF2 G c (truth d) es ρ k := rfl
theorem m_kF2t (es : Es) (ρ : DEnv) (k : R (Bool × DEnv) → α) : kF2 G c (.ok true) es ρ k = aF G c es ρ k := rfl
theorem m_kF2f (es : Es) (ρ : DEnv) (k : R (Bool × DEnv) → α) : kF2 G c (.ok false) es ρ k = k (.ok (false, ρ)) := rfl
theorem m_over (e : E) (ρ : DEnv) (k : R (List D × DEnv) → α) : aI G c (.over e) ρ k = aE G c e ρ (kOver k) := rfl
theorem m_kOver (d : D) (ρ : DEnv) (k : R (List D × DEnv) → α) : kOver k (.ok (d, ρ)) = kXs (itemsOf d) ρ k := rfl
theorem m_range (as : Es) (ρ : DEnv) (k : R (List D × DEnv) → α) : aI G c (.range as) ρ k = aO G c as ρ (kRange k) := rfl
theorem m_kRange (ds : List D) (ρ : DEnv) (k : R (List D × DEnv) → α) : kRange k (.ok (ds, ρ)) = kXs (rangeOf ds) ρ k := rfl
theorem m_enum (as : Es) (ρ : DEnv) (k : R (List D × DEnv) → α) : aI G c (.enum as) ρ k = aS G c as ρ (kEnum k) := rfl
theorem m_kEnum (ds : List D) (ρ : DEnv) (k : R (List D × DEnv) → α) : kEnum k (.ok (ds, ρ)) = kXs (enumOf ds) ρ k := rfl
theorem m_zip (as : Es) (ρ : DEnv) (k : R (List D × DEnv) → α) : aI G c (.zip as) ρ k = aS G c as ρ (kZip k) := rfl
theorem m_kZip (ds : List D) (ρ : DEnv) (k : R (List D × DEnv) → α) : kZip k (.ok (ds, ρ)) = kXs (zipOf ds) ρ k := rfl
theorem m_zips (as : Es) (ρ : DEnv) (k : R (List D × DEnv) → α) : aI G c (.zips as) ρ k = aS G c as ρ (kZips k) := rfl
theorem m_kZips (ds : List D) (ρ : DEnv) (k : R (List D × DEnv) → α) : kZips k (.ok (ds, ρ)) = kXs (zipsOf ds) ρ k := rfl
theorem m_kXs (xs : List D) (ρ : DEnv) (k : R (List D × DEnv) → α) : kXs (.ok xs) ρ k = k (.ok (xs, ρ)) := rfl
theorem m_r0 (ρ : DEnv) (k : Out → α) : aR G c wf .nil ρ k = k (.nx ρ) := rfl
theorem m_r1 (s : S) (ss : Ss) (ρ : DEnv) (k : Out → α) : aR G c wf (.cons s ss) ρ k = aT G c wf s ρ (kSeq G c wf ss k) := by
  rw [aR, runs_cons, aT]
  cases run G c wf s ρ <;> rfl
theorem m_seqN (ss : Ss) (ρ : DEnv) (k : Out → α) : kSeq G c wf ss k (.nx ρ) = aR G c wf ss ρ k := rfl
theorem m_seqR (ss : Ss) (d : D) (ρ : DEnv) (k : Out → α) : kSeq G c wf ss k (.rt d ρ) = k (.rt d ρ) := rfl
theorem m_seqB (ss : Ss) (ρ : DEnv) (k : Out → α) : kSeq G c wf ss k (.bk ρ) = k (.bk ρ) := rfl
theorem m_seqC (ss : Ss) (ρ : DEnv) (k : Out → α) : kSeq G c wf ss k (.ct ρ) = k (.ct ρ) := rfl
theorem m_asg (i : Nat) (e : E) (ρ : DEnv) (k : Out → α) : aT G c wf (.asg i e) ρ k = aE G c e ρ (kAsg i k) := rfl
theorem m_kAsg (i : Nat) (d : D) (ρ : DEnv) (k : Out → α) : kAsg i k (.ok (d, ρ)) = k (.nx (ρ.set i (some d))) := rfl
theorem m_asgT (is : List Nat) (e : E) (ρ : DEnv) (k : Out → α) : aT G c wf (.asgT is e) ρ k = aE G c e ρ (kAsgT is k) := rfl
theorem m_kAsgT (is : List Nat) (d : D) (ρ : DEnv) (k : Out → α) : kAsgT is k (.ok (d, ρ)) = kEnv ((Tg.tup is).set d ρ) k := rfl
theorem m_kEnv (ρ : DEnv) (k : Out → α) : kEnv (.ok ρ) k = k (.nx ρ) := rfl
theorem m_par (is : List Nat) (es : Es) (ρ : DEnv) (k : Out → α) : aT G c wf (.par is es) ρ k = aS G c es ρ (kPar is k) := rfl
theorem m_kPar (is : List Nat) (ds : List D) (ρ : DEnv) (k : Out → α) : kPar is k (.ok (ds, ρ)) = k (.nx ((is.zip ds).foldl (fun r q => r.set q.1 (some q.2)) ρ)) := rfl
theorem m_setix (i : Nat) (ix e : E) (ρ : DEnv) (k : Out → α) : aT G c wf (.setix i ix e) ρ k = aE G c e ρ (kSt1 G c i ix k) := rfl
theorem m_kSt1 (i : Nat) (ix : E) (d : D) (ρ : DEnv) (k : Out → α) : kSt1 G c i ix k (.ok (d, ρ)) = kSt2 G c (getV ρ i) i ix d ρ k := rfl
theorem m_kSt2 (l : D) (i : Nat) (ix : E) (v : D) (ρ : DEnv) (k : Out → α) : kSt2 G c (.ok l) i ix v ρ k = aE G c ix ρ (kSt3 i v k) := rfl
theorem m_kSt3 (i : Nat) (v j : D) (ρ : DEnv) (k : Out → α) : kSt3 i v k (.ok (j, ρ)) = kSt4 (getV ρ i) i j v ρ k := rfl
theorem m_kSt4 (l : D) (i : Nat) (j v : D) (ρ : DEnv) (k : Out → α) : kSt4 (.ok l) i j v ρ k = kPut (setIx l j v) i ρ k := rfl
theorem m_kPut (l : D) (i : Nat) (ρ : DEnv) (k : Out → α) : kPut (.ok l) i ρ k = k (.nx (ρ.set i (some l))) := rfl
theorem m_app (i : Nat) (e : E) (ρ : DEnv) (k : Out → α) : aT G c wf (.app i e) ρ k = kAp1 G c (getV ρ i) i e ρ k := rfl
theorem m_kAp1 (l : D) (i : Nat) (e : E) (ρ : DEnv) (k : Out → α) (h : isTy .list l = true) : kAp1 G c (.ok l) i e ρ k = aE G c e ρ (kAp2 i k) := by
  rw [kAp1, R.out_ok, h]; rfl
theorem m_kAp1L (xs : List D) (i : Nat) (e : E) (ρ : DEnv) (k : Out → α) : kAp1 G c (.ok (.list xs)) i e ρ k = aE G c e ρ (kAp2 i k) := rfl
theorem m_kAp1I (xs : List Int) (i : Nat) (e : E) (ρ : DEnv) (k : Out → α) : kAp1 G c (.ok (dI xs)) i e ρ k = aE G c e ρ (kAp2 i k) := rfl
theorem m_kAp2 (i : Nat) (v : D) (ρ : DEnv) (k : Out → α) : kAp2 i k (.ok (v, ρ)) = kAp3 (getV ρ i) i v ρ k := rfl
theorem m_kAp3 (l : D) (i : Nat) (v : D) (ρ : DEnv) (k : Out → α) : kAp3 (.ok l) i v ρ k = kPut (appD l v) i ρ k := rfl
theorem m_ins (i : Nat) (ix e : E) (ρ : DEnv) (k : Out → α) : aT G c wf (.ins i ix e) ρ k = kIn1 G c (getV ρ i) i ix e ρ k := rfl
theorem m_kIn1L (xs : List D) (i : Nat) (ix e : E) (ρ : DEnv) (k : Out → α) : kIn1 G c (.ok (.list xs)) i ix e ρ k = aE G c ix ρ (kIn2 G c i e k) := rfl
theorem m_kIn1I (xs : List Int) (i : Nat) (ix e : E) (ρ : DEnv) (k : Out → α) : kIn1 G c (.ok (dI xs)) i ix e ρ k = aE G c ix ρ (kIn2 G c i e k) := rfl
theorem m_kIn2 (i : Nat) (e : E) (j : D) (ρ : DEnv) (k : Out → α) : kIn2 G c i e k (.ok (j, ρ)) = aE G c e ρ (kIn3 i j k) := rfl
theorem m_kIn3 (i : Nat) (j v : D) (ρ : DEnv) (k : Out → α) : kIn3 i j k (.ok (v, ρ)) = kIn4 (getV ρ i) i j v ρ k := rfl
theorem m_kIn4 (l : D) (i : Nat) (j v : D) (ρ : DEnv) (k : Out → α) : kIn4 (.ok l) i j v ρ k = kPut (insD l j v) i ρ k := rfl
theorem m_spoil (i : Nat) (p : List Int) (e : E) (ρ : DEnv) (k : Out → α) : aT G c wf (.spoil i p e) ρ k = kSpo (getV ρ i) i p ρ k := rfl
theorem m_kSpo (l : D) (i : Nat) (p : List Int) (ρ : DEnv) (k : Out → α) (h : pathOk l p = true) : kSpo (.ok l) i p ρ k = k (.nx (ρ.set i none)) := by
  rw [kSpo, R.out_ok, h]; rfl
theorem m_exp (e : E) (ρ : DEnv) (k : Out → α) : aT G c wf (.exp e) ρ k = aE G c e ρ (kExp k) := rfl
theorem m_kExp (d : D) (ρ : DEnv) (k : Out → α) : kExp k (.ok (d, ρ)) = k (.nx ρ) := rfl
theorem m_ite (t : E) (a b : Ss) (ρ : DEnv) (k : Out → α) : aT G c wf (.ite t a b) ρ k = aE G c t ρ (kIte G c wf a b k) := rfl
theorem m_kIte (a b : Ss) (d : D) (ρ : DEnv) (k : Out → α) : kIte G c wf a b k (.ok (d, ρ)) = kItt G c wf (truth d) a b ρ k := rfl
theorem m_kIttT (a b : Ss) (ρ : DEnv) (k : Out → α) : kItt G c wf (.ok true) a b ρ k = aR G c wf a ρ k := rfl
theorem m_kIttF (a b : Ss) (ρ : DEnv) (k : Out → α) : kItt G c wf (.ok false) a b ρ k = aR G c wf b ρ k := rfl
theorem m_for (tg : Tg) (it : It) (b : Ss) (ρ : DEnv) (k : Out → α) : aT G c wf (.for_ tg it b) ρ k = aI G c it ρ (kFor G c wf tg b k) := rfl
theorem m_kFor (tg : Tg) (b : Ss) (ds : List D) (ρ : DEnv) (k : Out → α) : kFor G c wf tg b k (.ok (ds, ρ)) = k (forLoop tg.set (fun r => runs G c wf b r) ds ρ) := rfl
theorem m_ret (e : E) (ρ : DEnv) (k : Out → α) : aT G c wf (.ret e) ρ k = aE G c e ρ (kRt k) := rfl
theorem m_kRt (d : D) (ρ : DEnv) (k : Out → α) : kRt k (.ok (d, ρ)) = k (.rt d ρ) := rfl
theorem m_retv (i : Nat) (ρ : DEnv) (k : Out → α) : aT G c wf (.retv i) ρ k = kRv (getV ρ i) i ρ k := rfl
theorem m_kRv (d : D) (i : Nat) (ρ : DEnv) (k : Out → α) : kRv (.ok d) i ρ k = k (.rt d (ρ.set i none)) := rfl
theorem m_pass (ρ : DEnv) (k : Out → α) : aT G c wf .pass ρ k = k (.nx ρ) := rfl
theorem m_brk (ρ : DEnv) (k : Out → α) : aT G c wf .brk ρ k = k (.bk ρ) := rfl
theorem m_cnt (ρ : DEnv) (k : Out → α) : aT G c wf .cnt ρ k = k (.ct ρ) := rfl
theorem m_turnN (ρ : DEnv) : kTurn (.nx ρ) = .nx ρ := rfl
theorem m_turnC (ρ : DEnv) : kTurn (.ct ρ) = .nx ρ := rfl
theorem m_turnR (d : D) (ρ : DEnv) : kTurn (.rt d ρ) = .rt d ρ := rfl
theorem m_turnB (ρ : DEnv) : kTurn (.bk ρ) = .bk ρ := rfl
theorem m_some (d : D) (ρ : DEnv) : kSome (.ok (d, ρ)) = .ok (some d, ρ) := rfl
theorem m_eltT (elt : E) (ρ : DEnv) : kElt G c elt (.ok (true, ρ)) = aE G c elt ρ kSome := rfl
theorem m_eltF (elt : E) (ρ : DEnv) : kElt G c elt (.ok (false, ρ)) = .ok (none, ρ) := rfl
theorem turnF_eq {tg : Tg} {b : Ss} {d : D} {ρ ρ1 : DEnv} (h : tg.set d ρ = .ok ρ1) : turnF tg.set (fun r => runs G c wf b r) d ρ = aR G c wf b ρ1 kTurn := by
  rw [turnF, h]; rfl
theorem turnC_eq {tg : Tg} {elt : E} {ifs : Es} {d : D} {ρ ρ1 : DEnv} (h : tg.set d ρ = .ok ρ1) : turnC (fun d r => tg.set d r) (fun r => evIfs G c ifs r) (fun r => ev G c elt r) d ρ = aF G c ifs ρ1 (kElt G c elt) := by
  rw [turnC, h]; rfl
theorem runs_aR (ss : Ss) (ρ : DEnv) : (runs G c wf ss ρ).rtv = aR G c wf ss ρ Out.rtv := rfl
theorem runs_aIO (ss : Ss) (ρ : DEnv) : (runs G c wf ss ρ).rtio = aR G c wf ss ρ Out.rtio := rfl
theorem runs_id (ss : Ss) (ρ : DEnv) : runs G c wf ss ρ = aR G c wf ss ρ id := rfl
theorem ev_id (e : E) (ρ : DEnv) : ev G c e ρ = aE G c e ρ id := rfl
theorem it_id (it : It) (ρ : DEnv) : evIt G c it ρ = aI G c it ρ id := rfl
theorem run_id (s : S) (ρ : DEnv) : run G c wf s ρ = aT G c wf s ρ id := rfl
end
/-- the end of a turn of a while -/
def turnW (body : DEnv → Out) (ρ : DEnv) : Out := kTurn (body ρ)
theorem while_fold {σ : Type} (test : DEnv → R (D × DEnv)) (body : DEnv → Out) (E : σ → DEnv) (J : σ → Prop) (go : σ → Bool) (nxt : σ → σ) (ms : σ → Nat)
    (ht : ∀ s, J s → test (E s) = .ok (.bool (go s), E s)) (hb : ∀ s, J s → go s = true → J (nxt s) ∧ ms (nxt s) < ms s ∧ turnW body (E s) = .nx (E (nxt s))) :
    ∀ n s, J s → ms s < n → ∃ s', whileLoop test body n (E s) = .nx (E s') ∧ J s' ∧ go s' = false
  | 0, s, _, h => by omega
  | n + 1, s, h, hm => by
    have e := ht s h
    cases hg : go s with
    | false => exact ⟨s, by unfold whileLoop; rw [e, hg]; rfl, h, hg⟩
    | true =>
      obtain ⟨j, hl, eb⟩ := hb s h hg
      obtain ⟨s', e2, j2, g2⟩ := while_fold test body E J go nxt ms ht hb n (nxt s) j (by omega)
      refine ⟨s', ?_, j2, g2⟩
      rw [← e2]
      conv => lhs; unfold whileLoop
      rw [e, hg]
      unfold turnW at eb
      simp only [R.out_ok, truth, if_true]
      cases hbo : body (E s) <;> rw [hbo] at eb <;> simp only [kTurn, reduceCtorEq, Out.nx.injEq] at eb <;> subst eb <;> rfl
theorem turnW_eq {G : Nat → R D} {c : Callee} {wf : Nat} {b : Ss} (ρ : DEnv) : turnW (fun r => runs G c wf b r) ρ = aR G c wf b ρ kTurn := rfl
end Fh
end
section
set_option maxRecDepth 100000
set_option maxHeartbeats 2000000
set_option exponentiation.threshold 4000
/-! The helpers that every law has: cell, hash, random, generator, pick. -/
namespace Fh
open PySem L2

def cellFD : FD := { np := 2, ns := 2, io := false, lv := 0, scal := false, body :=
  (.cons (.ite (.prim .lt (.cons (.var 1) (.cons (.prim .len (.cons (.var 0) .nil)) .nil))) (.cons (.ret (.prim .idx (.cons (.var 0) (.cons (.var 1) .nil)))) .nil) .nil) (.cons (.ret (.prim .mod (.cons (.prim .sum1 (.cons (.prim .slH (.cons (.var 0) (.cons (.cst (.int 1)) .nil))) .nil)) (.cons (.cst (.int 1000003)) .nil)))) .nil)) }
def hashFD : FD := { np := 2, ns := 3, io := false, lv := 9, scal := true, body :=
  (.cons (.asg 2 (.prim .mod (.cons (.prim .intof (.cons (.prim .add (.cons (.prim .add (.cons (.prim .add (.cons (.prim .mul (.cons (.var 0) (.cons (.cst (.int 1140671)) .nil))) (.cons (.prim .mul (.cons (.prim .mul (.cons (.cst (.int 27644437)) (.cons (.var 1) .nil))) (.cons (.var 1) .nil))) .nil))) (.cons (.prim .mul (.cons (.cst (.int 131)) (.cons (.var 1) .nil))) .nil))) (.cons (.cst (.int 19)) .nil))) .nil)) (.cons (.cst (.int 2147483629)) .nil)))) (.cons (.asg 2 (.prim .mod (.cons (.prim .intof (.cons (.prim .add (.cons (.prim .add (.cons (.prim .mul (.cons (.var 2) (.cons (.var 2) .nil))) (.cons (.prim .mul (.cons (.cst (.int 62089)) (.cons (.var 1) .nil))) .nil))) (.cons (.cst (.int 32416187)) .nil))) .nil)) (.cons (.cst (.int 2147483587)) .nil)))) (.cons (.ret (.prim .mod (.cons (.prim .intof (.cons (.prim .mul (.cons (.var 2) (.cons (.cst (.int 48271)) .nil))) .nil)) (.cons (.cst (.int 2147483647)) .nil)))) .nil))) }
def rndB (h : Nat) : Ss := (.cons (.setix 0 (.cst (.int 2)) (.prim .add (.cons (.prim .idx (.cons (.var 0) (.cons (.cst (.int 2)) .nil))) (.cons (.cst (.int 1)) .nil)))) (.cons (.asg 2 (.prim .add (.cons (.prim .mul (.cons (.var 2) (.cons (.cst (.int 2147483587)) .nil))) (.cons (.call h (.cons (.prim .idx (.cons (.var 0) (.cons (.cst (.int 1)) .nil))) (.cons (.prim .idx (.cons (.var 0) (.cons (.cst (.int 2)) .nil))) .nil))) .nil)))) .nil))
def rndFD (h : Nat) : FD := { np := 2, ns := 4, io := true, lv := 9, scal := true, body :=
  (.cons (.ite (.prim .gt (.cons (.prim .idx (.cons (.var 0) (.cons (.cst (.int 0)) .nil))) (.cons (.cst (.int 0)) .nil))) (.cons (.asg 2 (.prim .mod (.cons (.prim .intof (.cons (.prim .idx (.cons (.var 0) (.cons (.cst (.int 0)) .nil))) .nil)) (.cons (.var 1) .nil)))) (.cons (.setix 0 (.cst (.int 0)) (.prim .fdiv (.cons (.prim .idx (.cons (.var 0) (.cons (.cst (.int 0)) .nil))) (.cons (.var 1) .nil)))) (.cons (.retv 2) .nil))) .nil) (.cons (.asg 2 (.cst (.int 0))) (.cons (.for_ (.one 3) (.range (.cons (.prim .add (.cons (.cst (.int 1)) (.cons (.prim .fdiv (.cons (.prim .bitlen (.cons (.var 1) .nil)) (.cons (.cst (.int 30)) .nil))) .nil))) .nil)) (rndB h)) (.cons (.ret (.prim .mod (.cons (.prim .intof (.cons (.var 2) .nil)) (.cons (.var 1) .nil)))) .nil)))) }
def genFD (f : Nat) : FD := { np := 2, ns := 3, io := false, lv := 2, scal := false, body :=
  (.cons (.asg 2 (.call f (.cons (.var 0) (.cons (.var 1) .nil)))) (.cons (.ret (.lst (.cons (.prim .mod (.cons (.prim .intof (.cons (.prim .max2 (.cons (.prim .sub (.cons (.var 2) (.cons (.prim .pow (.cons (.cst (.int 10)) (.cons (.cst (.int 18)) .nil))) .nil))) (.cons (.cst (.int 0)) .nil))) .nil)) (.cons (.prim .pow (.cons (.prim .pow (.cons (.cst (.int 10)) (.cons (.cst (.int 60)) .nil))) (.cons (.cst (.int 10)) .nil))) .nil))) (.cons (.prim .mod (.cons (.prim .intof (.cons (.var 2) .nil)) (.cons (.cst (.int 2147483647)) .nil))) (.cons (.prim .mul (.cons (.cst (.int 1000)) (.cons (.var 1) .nil))) .nil))))) .nil)) }
def pickFD (r : Nat) : FD := { np := 2, ns := 2, io := true, lv := 0, scal := false, body :=
  (.cons (.ret (.prim .idx (.cons (.var 1) (.cons (.callio r 0 (.cons (.prim .len (.cons (.var 1) .nil)) .nil)) .nil)))) .nil) }

/-- a generator's three numbers -/
structure Gn where
  a : Int
  s : Int
  k : Int
def Gn.d (g : Gn) : D := dI [g.a, g.s, g.k]
/-- b draws are still to be had -/
def GOk (b : Nat) (g : Gn) : Prop := 0 ≤ g.a ∧ (0 ≤ g.s ∧ g.s < 2147483647) ∧ 0 ≤ g.k ∧ g.k + 4 * b ≤ 4611686018427387904
theorem GOk.mono {b c : Nat} {g : Gn} (h : GOk c g) (hb : b ≤ c) : GOk b g := by
  obtain ⟨h1, h2, h3, h4⟩ := h
  exact ⟨h1, h2, h3, by omega⟩

section
variable {α : Type} {G : Nat → R D} {c : Fh.Callee} {wf : Nat}
theorem m_kIo2G (g : Gn) (f i : Nat) (ds : List D) (ρ : DEnv) (k : R (D × DEnv) → α) : kIo2 c (.ok g.d) f i ds ρ k = kRio (c f (g.d :: ds)) i ρ k := rfl
end
section
variable {P : Nat → Option FD} {G : Nat → R D} {wf : Nat}
theorem hash_spec {h : Nat} (hP : P h = some hashFD) (s k : Int) (hs : 0 ≤ s ∧ s < 2147483647) (hk : 0 ≤ k ∧ k ≤ 4611686018427387904) (n : Nat) :
    ∃ v : Int, callD P G wf (n + 1) h [.int s, .int k] = .ok (.int v, none) := by
  have hb : ∃ v : Int, (runs G (callD P G wf n) wf hashFD.body [some (.int s), some (.int k), none]).rtv = some (.int v) := by
    rw [runs_aR]
    simp -implicitDefEqProofs (disch := omega) only [hashFD, qm_cst, qm_var, qm_glo, m_kV, qm_prim, m_kPrim, qm_bop, qm_ife, m_kIfe, m_kIfeT, m_kIfeF, qm_lst, qm_tup, m_kLst, m_kTup, qm_dct, qm_chain, m_kCh1, m_kCh2, m_kCh3T, m_kCh3F, m_kCh4, qm_call, m_kCall, m_kRet, m_kRetX, qm_callio, m_kIo0, m_kIo1, m_kIo2L, m_kIo2I, m_kRio, m_callq', m_kQ1, m_kQ2, m_kQ3, m_callz', m_kZ1, m_kZ2b, m_kZ2i, m_evs0, m_evs1, m_kS1, m_kC, m_o0, m_ovar, m_kV1, m_kV2, m_kV3, m_ocst, m_oglo, m_oprim, m_obop, m_oife, m_olst, m_otup, m_odct, m_ochain, m_ocall, m_ocallio, m_ocallq, m_ocallz, m_ocomp, m_kO1, m_b1, m_b2, m_kB1, m_kBtt, m_kBff, m_kBtf, m_kBft, m_f0, m_f1, m_kF1, m_kF2t, m_kF2f, m_over, m_kOver, m_range, m_kRange, m_enum, m_kEnum, m_zip, m_kZip, m_zips, m_kZips, m_kXs, m_r0, m_r1, m_seqN, m_seqR, m_seqB, m_seqC, m_asg, m_kAsg, m_asgT, m_kAsgT, m_kEnv, m_par, m_kPar, m_setix, m_kSt1, m_kSt2, m_kSt3, m_kSt4, m_kPut, m_app, m_kAp1L, m_kAp1I, m_kAp2, m_kAp3, m_ins, m_kIn1L, m_kIn1I, m_kIn2, m_kIn3, m_kIn4, m_spoil, m_kSpo, m_exp, m_kExp, m_ite, m_kIte, m_kIttT, m_kIttF, m_for, m_kFor, m_ret, m_kRt, m_retv, m_kRv, m_pass, m_brk, m_cnt, m_turnN, m_turnC, m_turnR, m_turnB, m_some, m_eltT, m_eltF, getV_0, getV_s, set_0, set_s, truth_b, truth_i, truth_n, zipf_0, zipf_s, tg_1, tg_2, tg_3, wipe_0, wipe_s,
    isTyL, isTyI, isTy, pis_int, pis_bool, pis_non, pis_str, pis_list, pis_tup, pis_dict, p_add, p_sub, p_neg, p_lt, p_le, p_gt, p_ge, p_eqi, p_nei, p_eqb, p_neb, p_eqs, p_nes, p_notb, p_isN, p_isnN, p_len, p_lent, p_lenI, p_int, p_intb, p_bitlen, p_abs, p_max2, p_min2, p_rev, p_revI, p_tupof, p_listof, p_sumI, p_allb, p_anyb, p_idx0, p_idx1, p_idx2,
    items_L, items_I, rtv_rt, rtio_rt, rtio_nx, Bool.not_true, Bool.not_false, Bool.false_eq_true, Bool.true_eq_false, ↓reduceIte, if_true, if_false, beq_self_eq_true, bne_self_eq_false, decide_true, decide_false, p_mul, p_mod]
    exact ⟨_, rfl⟩
  obtain ⟨v, hv⟩ := hb
  exact ⟨v, callD_v hP rfl rfl rfl (.inr rfl) hv⟩
theorem qbits_le (m : Int) (h : 0 < m ∧ m < 18446744073709551616) : Builtin.Int.intBits m ≤ 64 := by
  unfold Builtin.Int.intBits
  split
  · omega
  · have h1 : m.natAbs ≠ 0 := by omega
    have : m.natAbs.log2 < 64 := (Nat.log2_lt h1).mpr (by omega)
    omega
theorem rnd_spec {r h : Nat} (hR : P r = some (rndFD h)) (hP : P h = some hashFD) {b : Nat} {g : Gn} (hg : GOk (b + 1) g) {m : Int} (hm : 0 < m ∧ m < 18446744073709551616) (n : Nat) :
    ∃ v g', (0 ≤ v ∧ v < m) ∧ GOk b g' ∧ callD P G wf (n + 2) r [g.d, .int m] = .ok (.int v, some g'.d) := by
  obtain ⟨h1, h2, h3, h4⟩ := hg
  by_cases ha : 0 < g.a
  · refine ⟨g.a % m, ⟨g.a / m, g.s, g.k⟩, ⟨Int.emod_nonneg _ (by omega), Int.emod_lt_of_pos _ hm.1⟩, ⟨Int.ediv_nonneg h1 (by omega), h2, h3, by simp only; omega⟩, ?_⟩
    refine callD_io (ρ := [some g.d, some (.int m), none, none]) hR rfl rfl rfl (.inr rfl) ?_
    have hd : g.d = .list [.int g.a, .int g.s, .int g.k] := rfl
    have hs : setIx (.list [.int g.a, .int g.s, .int g.k]) (.int 0) (.int (g.a / m)) = .ok (Gn.d ⟨g.a / m, g.s, g.k⟩) := rfl
    rw [hd]
    rw [runs_aIO]
    simp -implicitDefEqProofs (disch := omega) only [rndFD, qm_cst, qm_var, qm_glo, m_kV, qm_prim, m_kPrim, qm_bop, qm_ife, m_kIfe, m_kIfeT, m_kIfeF, qm_lst, qm_tup, m_kLst, m_kTup, qm_dct, qm_chain, m_kCh1, m_kCh2, m_kCh3T, m_kCh3F, m_kCh4, qm_call, m_kCall, m_kRet, m_kRetX, qm_callio, m_kIo0, m_kIo1, m_kIo2L, m_kIo2I, m_kRio, m_callq', m_kQ1, m_kQ2, m_kQ3, m_callz', m_kZ1, m_kZ2b, m_kZ2i, m_evs0, m_evs1, m_kS1, m_kC, m_o0, m_ovar, m_kV1, m_kV2, m_kV3, m_ocst, m_oglo, m_oprim, m_obop, m_oife, m_olst, m_otup, m_odct, m_ochain, m_ocall, m_ocallio, m_ocallq, m_ocallz, m_ocomp, m_kO1, m_b1, m_b2, m_kB1, m_kBtt, m_kBff, m_kBtf, m_kBft, m_f0, m_f1, m_kF1, m_kF2t, m_kF2f, m_over, m_kOver, m_range, m_kRange, m_enum, m_kEnum, m_zip, m_kZip, m_zips, m_kZips, m_kXs, m_r0, m_r1, m_seqN, m_seqR, m_seqB, m_seqC, m_asg, m_kAsg, m_asgT, m_kAsgT, m_kEnv, m_par, m_kPar, m_setix, m_kSt1, m_kSt2, m_kSt3, m_kSt4, m_kPut, m_app, m_kAp1L, m_kAp1I, m_kAp2, m_kAp3, m_ins, m_kIn1L, m_kIn1I, m_kIn2, m_kIn3, m_kIn4, m_spoil, m_kSpo, m_exp, m_kExp, m_ite, m_kIte, m_kIttT, m_kIttF, m_for, m_kFor, m_ret, m_kRt, m_retv, m_kRv, m_pass, m_brk, m_cnt, m_turnN, m_turnC, m_turnR, m_turnB, m_some, m_eltT, m_eltF, getV_0, getV_s, set_0, set_s, truth_b, truth_i, truth_n, zipf_0, zipf_s, tg_1, tg_2, tg_3, wipe_0, wipe_s,
    isTyL, isTyI, isTy, pis_int, pis_bool, pis_non, pis_str, pis_list, pis_tup, pis_dict, p_add, p_sub, p_neg, p_lt, p_le, p_gt, p_ge, p_eqi, p_nei, p_eqb, p_neb, p_eqs, p_nes, p_notb, p_isN, p_isnN, p_len, p_lent, p_lenI, p_int, p_intb, p_bitlen, p_abs, p_max2, p_min2, p_rev, p_revI, p_tupof, p_listof, p_sumI, p_allb, p_anyb, p_idx0, p_idx1, p_idx2,
    items_L, items_I, rtv_rt, rtio_rt, rtio_nx, Bool.not_true, Bool.not_false, Bool.false_eq_true, Bool.true_eq_false, ↓reduceIte, if_true, if_false, beq_self_eq_true, bne_self_eq_false, decide_true, decide_false, p_mod, p_div, ha, hs]
  · have hb := qbits_le m hm
    have hd : g.d = .list [.int g.a, .int g.s, .int g.k] := rfl
    obtain ⟨ρ', e, v, k, z, hk, rfl⟩ := forLoop_inv (Tg.one 3).set (fun r => runs G (callD P G wf (n + 1)) wf (rndB h) r)
      (fun j ρ => ∃ (v k : Int) (z : Option D), (k = g.k + j) ∧ ρ = [some (.list [.int g.a, .int g.s, .int k]), some (.int m), some (.int v), z])
      ((List.range (1 + (Builtin.Int.intBits m : Int) / 30).toNat).map fun (k : Nat) => D.int (k : Int)) 0
      [some (.list [.int g.a, .int g.s, .int g.k]), some (.int m), some (.int 0), none] ⟨0, g.k, none, by simp, rfl⟩ (by
        rintro j d _ hj ⟨v, k, z, hk, rfl⟩
        have hlt := (List.getElem?_eq_some_iff.mp hj).1
        simp only [List.length_map, List.length_range] at hlt
        obtain ⟨x, hx⟩ := hash_spec (G := G) (wf := wf) hP g.s (k + 1) h2 (by omega) n
        have hs : setIx (.list [.int g.a, .int g.s, .int k]) (.int 2) (.int (k + 1)) = .ok (.list [.int g.a, .int g.s, .int (k + 1)]) := rfl
        refine ⟨_, ?_, v * 2147483587 + x, k + 1, some d, by omega, rfl⟩
        rw [turnF_eq rfl]
        simp -implicitDefEqProofs (disch := omega) only [rndB, qm_cst, qm_var, qm_glo, m_kV, qm_prim, m_kPrim, qm_bop, qm_ife, m_kIfe, m_kIfeT, m_kIfeF, qm_lst, qm_tup, m_kLst, m_kTup, qm_dct, qm_chain, m_kCh1, m_kCh2, m_kCh3T, m_kCh3F, m_kCh4, qm_call, m_kCall, m_kRet, m_kRetX, qm_callio, m_kIo0, m_kIo1, m_kIo2L, m_kIo2I, m_kRio, m_callq', m_kQ1, m_kQ2, m_kQ3, m_callz', m_kZ1, m_kZ2b, m_kZ2i, m_evs0, m_evs1, m_kS1, m_kC, m_o0, m_ovar, m_kV1, m_kV2, m_kV3, m_ocst, m_oglo, m_oprim, m_obop, m_oife, m_olst, m_otup, m_odct, m_ochain, m_ocall, m_ocallio, m_ocallq, m_ocallz, m_ocomp, m_kO1, m_b1, m_b2, m_kB1, m_kBtt, m_kBff, m_kBtf, m_kBft, m_f0, m_f1, m_kF1, m_kF2t, m_kF2f, m_over, m_kOver, m_range, m_kRange, m_enum, m_kEnum, m_zip, m_kZip, m_zips, m_kZips, m_kXs, m_r0, m_r1, m_seqN, m_seqR, m_seqB, m_seqC, m_asg, m_kAsg, m_asgT, m_kAsgT, m_kEnv, m_par, m_kPar, m_setix, m_kSt1, m_kSt2, m_kSt3, m_kSt4, m_kPut, m_app, m_kAp1L, m_kAp1I, m_kAp2, m_kAp3, m_ins, m_kIn1L, m_kIn1I, m_kIn2, m_kIn3, m_kIn4, m_spoil, m_kSpo, m_exp, m_kExp, m_ite, m_kIte, m_kIttT, m_kIttF, m_for, m_kFor, m_ret, m_kRt, m_retv, m_kRv, m_pass, m_brk, m_cnt, m_turnN, m_turnC, m_turnR, m_turnB, m_some, m_eltT, m_eltF, getV_0, getV_s, set_0, set_s, truth_b, truth_i, truth_n, zipf_0, zipf_s, tg_1, tg_2, tg_3, wipe_0, wipe_s,
    isTyL, isTyI, isTy, pis_int, pis_bool, pis_non, pis_str, pis_list, pis_tup, pis_dict, p_add, p_sub, p_neg, p_lt, p_le, p_gt, p_ge, p_eqi, p_nei, p_eqb, p_neb, p_eqs, p_nes, p_notb, p_isN, p_isnN, p_len, p_lent, p_lenI, p_int, p_intb, p_bitlen, p_abs, p_max2, p_min2, p_rev, p_revI, p_tupof, p_listof, p_sumI, p_allb, p_anyb, p_idx0, p_idx1, p_idx2,
    items_L, items_I, rtv_rt, rtio_rt, rtio_nx, Bool.not_true, Bool.not_false, Bool.false_eq_true, Bool.true_eq_false, ↓reduceIte, if_true, if_false, beq_self_eq_true, bne_self_eq_false, decide_true, decide_false, p_mul, hs, hx])
    simp only [List.length_map, List.length_range] at hk
    refine ⟨v % m, ⟨g.a, g.s, k⟩, ⟨Int.emod_nonneg _ (by omega), Int.emod_lt_of_pos _ hm.1⟩, ⟨h1, h2, by simp only; omega, by simp only; omega⟩, ?_⟩
    refine callD_io (ρ := [some g.d, some (.int m), none, none]) hR rfl rfl rfl (.inr rfl) ?_
    rw [hd]
    rw [runs_aIO]
    simp -implicitDefEqProofs (disch := omega) only [rndFD, qm_cst, qm_var, qm_glo, m_kV, qm_prim, m_kPrim, qm_bop, qm_ife, m_kIfe, m_kIfeT, m_kIfeF, qm_lst, qm_tup, m_kLst, m_kTup, qm_dct, qm_chain, m_kCh1, m_kCh2, m_kCh3T, m_kCh3F, m_kCh4, qm_call, m_kCall, m_kRet, m_kRetX, qm_callio, m_kIo0, m_kIo1, m_kIo2L, m_kIo2I, m_kRio, m_callq', m_kQ1, m_kQ2, m_kQ3, m_callz', m_kZ1, m_kZ2b, m_kZ2i, m_evs0, m_evs1, m_kS1, m_kC, m_o0, m_ovar, m_kV1, m_kV2, m_kV3, m_ocst, m_oglo, m_oprim, m_obop, m_oife, m_olst, m_otup, m_odct, m_ochain, m_ocall, m_ocallio, m_ocallq, m_ocallz, m_ocomp, m_kO1, m_b1, m_b2, m_kB1, m_kBtt, m_kBff, m_kBtf, m_kBft, m_f0, m_f1, m_kF1, m_kF2t, m_kF2f, m_over, m_kOver, m_range, m_kRange, m_enum, m_kEnum, m_zip, m_kZip, m_zips, m_kZips, m_kXs, m_r0, m_r1, m_seqN, m_seqR, m_seqB, m_seqC, m_asg, m_kAsg, m_asgT, m_kAsgT, m_kEnv, m_par, m_kPar, m_setix, m_kSt1, m_kSt2, m_kSt3, m_kSt4, m_kPut, m_app, m_kAp1L, m_kAp1I, m_kAp2, m_kAp3, m_ins, m_kIn1L, m_kIn1I, m_kIn2, m_kIn3, m_kIn4, m_spoil, m_kSpo, m_exp, m_kExp, m_ite, m_kIte, m_kIttT, m_kIttF, m_for, m_kFor, m_ret, m_kRt, m_retv, m_kRv, m_pass, m_brk, m_cnt, m_turnN, m_turnC, m_turnR, m_turnB, m_some, m_eltT, m_eltF, getV_0, getV_s, set_0, set_s, truth_b, truth_i, truth_n, zipf_0, zipf_s, tg_1, tg_2, tg_3, wipe_0, wipe_s,
    isTyL, isTyI, isTy, pis_int, pis_bool, pis_non, pis_str, pis_list, pis_tup, pis_dict, p_add, p_sub, p_neg, p_lt, p_le, p_gt, p_ge, p_eqi, p_nei, p_eqb, p_neb, p_eqs, p_nes, p_notb, p_isN, p_isnN, p_len, p_lent, p_lenI, p_int, p_intb, p_bitlen, p_abs, p_max2, p_min2, p_rev, p_revI, p_tupof, p_listof, p_sumI, p_allb, p_anyb, p_idx0, p_idx1, p_idx2,
    items_L, items_I, rtv_rt, rtio_rt, rtio_nx, Bool.not_true, Bool.not_false, Bool.false_eq_true, Bool.true_eq_false, ↓reduceIte, if_true, if_false, beq_self_eq_true, bne_self_eq_false, decide_true, decide_false, p_mod, p_div, ha, range_1, e]
    rfl
/-- a generator of a script -/
theorem gen_spec {f q : Nat} (hF : P f = some (genFD q)) (hC : P q = some cellFD) (zs : List Int) (i : Int) (hi : 0 ≤ i ∧ i < 1000000) (n : Nat) :
    ∃ g, GOk 1000000000000000 g ∧ callD P G wf (n + 2) f [dI zs, .int i] = .ok (g.d, none) := by
  have cell : ∃ x : Int, callD P G wf (n + 1) q [dI zs, .int i] = .ok (.int x, none) := by
    by_cases h : i < zs.length
    · refine ⟨gi zs i, callD_v (ρ := [some (dI zs), some (.int i)]) hC rfl rfl rfl (.inl rfl) ?_⟩
      rw [runs_aR]
      simp -implicitDefEqProofs (disch := omega) only [cellFD, qm_cst, qm_var, qm_glo, m_kV, qm_prim, m_kPrim, qm_bop, qm_ife, m_kIfe, m_kIfeT, m_kIfeF, qm_lst, qm_tup, m_kLst, m_kTup, qm_dct, qm_chain, m_kCh1, m_kCh2, m_kCh3T, m_kCh3F, m_kCh4, qm_call, m_kCall, m_kRet, m_kRetX, qm_callio, m_kIo0, m_kIo1, m_kIo2L, m_kIo2I, m_kRio, m_callq', m_kQ1, m_kQ2, m_kQ3, m_callz', m_kZ1, m_kZ2b, m_kZ2i, m_evs0, m_evs1, m_kS1, m_kC, m_o0, m_ovar, m_kV1, m_kV2, m_kV3, m_ocst, m_oglo, m_oprim, m_obop, m_oife, m_olst, m_otup, m_odct, m_ochain, m_ocall, m_ocallio, m_ocallq, m_ocallz, m_ocomp, m_kO1, m_b1, m_b2, m_kB1, m_kBtt, m_kBff, m_kBtf, m_kBft, m_f0, m_f1, m_kF1, m_kF2t, m_kF2f, m_over, m_kOver, m_range, m_kRange, m_enum, m_kEnum, m_zip, m_kZip, m_zips, m_kZips, m_kXs, m_r0, m_r1, m_seqN, m_seqR, m_seqB, m_seqC, m_asg, m_kAsg, m_asgT, m_kAsgT, m_kEnv, m_par, m_kPar, m_setix, m_kSt1, m_kSt2, m_kSt3, m_kSt4, m_kPut, m_app, m_kAp1L, m_kAp1I, m_kAp2, m_kAp3, m_ins, m_kIn1L, m_kIn1I, m_kIn2, m_kIn3, m_kIn4, m_spoil, m_kSpo, m_exp, m_kExp, m_ite, m_kIte, m_kIttT, m_kIttF, m_for, m_kFor, m_ret, m_kRt, m_retv, m_kRv, m_pass, m_brk, m_cnt, m_turnN, m_turnC, m_turnR, m_turnB, m_some, m_eltT, m_eltF, getV_0, getV_s, set_0, set_s, truth_b, truth_i, truth_n, zipf_0, zipf_s, tg_1, tg_2, tg_3, wipe_0, wipe_s,
    isTyL, isTyI, isTy, pis_int, pis_bool, pis_non, pis_str, pis_list, pis_tup, pis_dict, p_add, p_sub, p_neg, p_lt, p_le, p_gt, p_ge, p_eqi, p_nei, p_eqb, p_neb, p_eqs, p_nes, p_notb, p_isN, p_isnN, p_len, p_lent, p_lenI, p_int, p_intb, p_bitlen, p_abs, p_max2, p_min2, p_rev, p_revI, p_tupof, p_listof, p_sumI, p_allb, p_anyb, p_idx0, p_idx1, p_idx2,
    items_L, items_I, rtv_rt, rtio_rt, rtio_nx, Bool.not_true, Bool.not_false, Bool.false_eq_true, Bool.true_eq_false, ↓reduceIte, if_true, if_false, beq_self_eq_true, bne_self_eq_false, decide_true, decide_false, h, p_idxI]
    · refine ⟨(zs.take 1).sum % 1000003, callD_v (ρ := [some (dI zs), some (.int i)]) hC rfl rfl rfl (.inl rfl) ?_⟩
      rw [runs_aR]
      simp -implicitDefEqProofs (disch := omega) only [cellFD, qm_cst, qm_var, qm_glo, m_kV, qm_prim, m_kPrim, qm_bop, qm_ife, m_kIfe, m_kIfeT, m_kIfeF, qm_lst, qm_tup, m_kLst, m_kTup, qm_dct, qm_chain, m_kCh1, m_kCh2, m_kCh3T, m_kCh3F, m_kCh4, qm_call, m_kCall, m_kRet, m_kRetX, qm_callio, m_kIo0, m_kIo1, m_kIo2L, m_kIo2I, m_kRio, m_callq', m_kQ1, m_kQ2, m_kQ3, m_callz', m_kZ1, m_kZ2b, m_kZ2i, m_evs0, m_evs1, m_kS1, m_kC, m_o0, m_ovar, m_kV1, m_kV2, m_kV3, m_ocst, m_oglo, m_oprim, m_obop, m_oife, m_olst, m_otup, m_odct, m_ochain, m_ocall, m_ocallio, m_ocallq, m_ocallz, m_ocomp, m_kO1, m_b1, m_b2, m_kB1, m_kBtt, m_kBff, m_kBtf, m_kBft, m_f0, m_f1, m_kF1, m_kF2t, m_kF2f, m_over, m_kOver, m_range, m_kRange, m_enum, m_kEnum, m_zip, m_kZip, m_zips, m_kZips, m_kXs, m_r0, m_r1, m_seqN, m_seqR, m_seqB, m_seqC, m_asg, m_kAsg, m_asgT, m_kAsgT, m_kEnv, m_par, m_kPar, m_setix, m_kSt1, m_kSt2, m_kSt3, m_kSt4, m_kPut, m_app, m_kAp1L, m_kAp1I, m_kAp2, m_kAp3, m_ins, m_kIn1L, m_kIn1I, m_kIn2, m_kIn3, m_kIn4, m_spoil, m_kSpo, m_exp, m_kExp, m_ite, m_kIte, m_kIttT, m_kIttF, m_for, m_kFor, m_ret, m_kRt, m_retv, m_kRv, m_pass, m_brk, m_cnt, m_turnN, m_turnC, m_turnR, m_turnB, m_some, m_eltT, m_eltF, getV_0, getV_s, set_0, set_s, truth_b, truth_i, truth_n, zipf_0, zipf_s, tg_1, tg_2, tg_3, wipe_0, wipe_s,
    isTyL, isTyI, isTy, pis_int, pis_bool, pis_non, pis_str, pis_list, pis_tup, pis_dict, p_add, p_sub, p_neg, p_lt, p_le, p_gt, p_ge, p_eqi, p_nei, p_eqb, p_neb, p_eqs, p_nes, p_notb, p_isN, p_isnN, p_len, p_lent, p_lenI, p_int, p_intb, p_bitlen, p_abs, p_max2, p_min2, p_rev, p_revI, p_tupof, p_listof, p_sumI, p_allb, p_anyb, p_idx0, p_idx1, p_idx2,
    items_L, items_I, rtv_rt, rtio_rt, rtio_nx, Bool.not_true, Bool.not_false, Bool.false_eq_true, Bool.true_eq_false, ↓reduceIte, if_true, if_false, beq_self_eq_true, bne_self_eq_false, decide_true, decide_false, h, p_slHI, p_mod]
      rfl
  obtain ⟨x, hx⟩ := cell
  have e1 : (10 : Int) ^ (60 : Int).toNat = 10 ^ 60 := rfl
  have e2 : ((10 : Int) ^ 60) ^ (10 : Int).toNat = (10 ^ 60) ^ 10 := rfl
  have hp : (0 : Int) < (10 ^ 60) ^ 10 := by decide +kernel
  refine ⟨⟨(if 0 > x - 10 ^ 18 then 0 else x - 10 ^ 18) % (10 ^ 60) ^ 10, x % 2147483647, 1000 * i⟩, ⟨Int.emod_nonneg _ (by omega), ⟨Int.emod_nonneg _ (by omega), Int.emod_lt_of_pos _ (by omega)⟩, by simp only; omega, by simp only; omega⟩, ?_⟩
  refine callD_v (ρ := [some (dI zs), some (.int i), none]) hF rfl rfl rfl (.inl rfl) ?_
  rw [runs_aR]
  have q1 : prim .pow [.int 10, .int 18] = .ok (.int (10 ^ 18)) := p_pow _ _ (by decide) (by decide) (by decide +kernel)
  have q2 : prim .pow [.int 10, .int 60] = .ok (.int (10 ^ 60)) := p_pow _ _ (by decide) (by decide) (by decide +kernel)
  have q3 : prim .pow [.int (10 ^ 60), .int 10] = .ok (.int ((10 ^ 60) ^ 10)) := p_pow _ _ (by decide) (by decide) (by decide +kernel)
  have q4 : ∀ y : Int, prim .mod [.int y, .int ((10 ^ 60) ^ 10)] = .ok (.int (y % (10 ^ 60) ^ 10)) := fun y => p_mod _ _ hp
  simp -implicitDefEqProofs (disch := omega) only [genFD, qm_cst, qm_var, qm_glo, m_kV, qm_prim, m_kPrim, qm_bop, qm_ife, m_kIfe, m_kIfeT, m_kIfeF, qm_lst, qm_tup, m_kLst, m_kTup, qm_dct, qm_chain, m_kCh1, m_kCh2, m_kCh3T, m_kCh3F, m_kCh4, qm_call, m_kCall, m_kRet, m_kRetX, qm_callio, m_kIo0, m_kIo1, m_kIo2L, m_kIo2I, m_kRio, m_callq', m_kQ1, m_kQ2, m_kQ3, m_callz', m_kZ1, m_kZ2b, m_kZ2i, m_evs0, m_evs1, m_kS1, m_kC, m_o0, m_ovar, m_kV1, m_kV2, m_kV3, m_ocst, m_oglo, m_oprim, m_obop, m_oife, m_olst, m_otup, m_odct, m_ochain, m_ocall, m_ocallio, m_ocallq, m_ocallz, m_ocomp, m_kO1, m_b1, m_b2, m_kB1, m_kBtt, m_kBff, m_kBtf, m_kBft, m_f0, m_f1, m_kF1, m_kF2t, m_kF2f, m_over, m_kOver, m_range, m_kRange, m_enum, m_kEnum, m_zip, m_kZip, m_zips, m_kZips, m_kXs, m_r0, m_r1, m_seqN, m_seqR, m_seqB, m_seqC, m_asg, m_kAsg, m_asgT, m_kAsgT, m_kEnv, m_par, m_kPar, m_setix, m_kSt1, m_kSt2, m_kSt3, m_kSt4, m_kPut, m_app, m_kAp1L, m_kAp1I, m_kAp2, m_kAp3, m_ins, m_kIn1L, m_kIn1I, m_kIn2, m_kIn3, m_kIn4, m_spoil, m_kSpo, m_exp, m_kExp, m_ite, m_kIte, m_kIttT, m_kIttF, m_for, m_kFor, m_ret, m_kRt, m_retv, m_kRv, m_pass, m_brk, m_cnt, m_turnN, m_turnC, m_turnR, m_turnB, m_some, m_eltT, m_eltF, getV_0, getV_s, set_0, set_s, truth_b, truth_i, truth_n, zipf_0, zipf_s, tg_1, tg_2, tg_3, wipe_0, wipe_s,
    isTyL, isTyI, isTy, pis_int, pis_bool, pis_non, pis_str, pis_list, pis_tup, pis_dict, p_add, p_sub, p_neg, p_lt, p_le, p_gt, p_ge, p_eqi, p_nei, p_eqb, p_neb, p_eqs, p_nes, p_notb, p_isN, p_isnN, p_len, p_lent, p_lenI, p_int, p_intb, p_bitlen, p_abs, p_max2, p_min2, p_rev, p_revI, p_tupof, p_listof, p_sumI, p_allb, p_anyb, p_idx0, p_idx1, p_idx2,
    items_L, items_I, rtv_rt, rtio_rt, rtio_nx, Bool.not_true, Bool.not_false, Bool.false_eq_true, Bool.true_eq_false, ↓reduceIte, if_true, if_false, beq_self_eq_true, bne_self_eq_false, decide_true, decide_false, hx, q1, q2, q3, q4, p_mod, p_mul]
  rfl
theorem pick_spec {f r h : Nat} (hF : P f = some (pickFD r)) (hR : P r = some (rndFD h)) (hP : P h = some hashFD) {b : Nat} {g : Gn} (hg : GOk (b + 1) g) {xs : List D} (hm : 0 < xs.length ∧ xs.length < 18446744073709551616) (n : Nat) :
    ∃ i g', ∃ hi : i < xs.length, GOk b g' ∧ callD P G wf (n + 3) f [g.d, .list xs] = .ok (xs[i], some g'.d) := by
  obtain ⟨v, g', hv, hg', e⟩ := rnd_spec (G := G) (wf := wf) hR hP hg (m := xs.length) (by omega) n
  refine ⟨v.toNat, g', by omega, hg', ?_⟩
  refine callD_io (ρ := [some g.d, some (.list xs)]) hF rfl rfl rfl (.inl rfl) ?_
  rw [runs_aIO]
  have q : prim .idx [.list xs, .int v] = .ok (xs[v.toNat]'(by omega)) := p_idx _ _ _ (by
    unfold at?
    rw [if_pos hv.1, List.getElem?_eq_getElem])
  have hd : isTy .list g.d = true := rfl
  simp -implicitDefEqProofs (disch := omega) only [pickFD, qm_cst, qm_var, qm_glo, m_kV, qm_prim, m_kPrim, qm_bop, qm_ife, m_kIfe, m_kIfeT, m_kIfeF, qm_lst, qm_tup, m_kLst, m_kTup, qm_dct, qm_chain, m_kCh1, m_kCh2, m_kCh3T, m_kCh3F, m_kCh4, qm_call, m_kCall, m_kRet, m_kRetX, qm_callio, m_kIo0, m_kIo1, m_kIo2L, m_kIo2I, m_kRio, m_callq', m_kQ1, m_kQ2, m_kQ3, m_callz', m_kZ1, m_kZ2b, m_kZ2i, m_evs0, m_evs1, m_kS1, m_kC, m_o0, m_ovar, m_kV1, m_kV2, m_kV3, m_ocst, m_oglo, m_oprim, m_obop, m_oife, m_olst, m_otup, m_odct, m_ochain, m_ocall, m_ocallio, m_ocallq, m_ocallz, m_ocomp, m_kO1, m_b1, m_b2, m_kB1, m_kBtt, m_kBff, m_kBtf, m_kBft, m_f0, m_f1, m_kF1, m_kF2t, m_kF2f, m_over, m_kOver, m_range, m_kRange, m_enum, m_kEnum, m_zip, m_kZip, m_zips, m_kZips, m_kXs, m_r0, m_r1, m_seqN, m_seqR, m_seqB, m_seqC, m_asg, m_kAsg, m_asgT, m_kAsgT, m_kEnv, m_par, m_kPar, m_setix, m_kSt1, m_kSt2, m_kSt3, m_kSt4, m_kPut, m_app, m_kAp1L, m_kAp1I, m_kAp2, m_kAp3, m_ins, m_kIn1L, m_kIn1I, m_kIn2, m_kIn3, m_kIn4, m_spoil, m_kSpo, m_exp, m_kExp, m_ite, m_kIte, m_kIttT, m_kIttF, m_for, m_kFor, m_ret, m_kRt, m_retv, m_kRv, m_pass, m_brk, m_cnt, m_turnN, m_turnC, m_turnR, m_turnB, m_some, m_eltT, m_eltF, getV_0, getV_s, set_0, set_s, truth_b, truth_i, truth_n, zipf_0, zipf_s, tg_1, tg_2, tg_3, wipe_0, wipe_s,
    isTyL, isTyI, isTy, pis_int, pis_bool, pis_non, pis_str, pis_list, pis_tup, pis_dict, p_add, p_sub, p_neg, p_lt, p_le, p_gt, p_ge, p_eqi, p_nei, p_eqb, p_neb, p_eqs, p_nes, p_notb, p_isN, p_isnN, p_len, p_lent, p_lenI, p_int, p_intb, p_bitlen, p_abs, p_max2, p_min2, p_rev, p_revI, p_tupof, p_listof, p_sumI, p_allb, p_anyb, p_idx0, p_idx1, p_idx2,
    items_L, items_I, rtv_rt, rtio_rt, rtio_nx, Bool.not_true, Bool.not_false, Bool.false_eq_true, Bool.true_eq_false, ↓reduceIte, if_true, if_false, beq_self_eq_true, bne_self_eq_false, decide_true, decide_false, m_kIo2G, e, q]
end
end Fh
end
section
set_option maxRecDepth 100000
set_option maxHeartbeats 2000000
/-! Plain facts about lists, for the laws. -/
namespace Fh
open PySem L2

/-! ### every second item -/
def every2 {α : Type} : List α → List α
  | [] => []
  | [x] => [x]
  | x :: _ :: r => x :: every2 r
theorem every2_cons {α : Type} (x : α) (r : List α) : every2 (x :: r) = x :: every2 r.tail := by cases r <;> rfl
theorem every2_range {α : Type} : ∀ (xs : List α) (m : Nat), m = (xs.length + 1) / 2 → (List.range m).filterMap (fun k => xs[2 * k]?) = every2 xs
  | [], m, h => by
    obtain rfl : m = 0 := by simpa using h
    rfl
  | [x], m, h => by
    obtain rfl : m = 1 := by simpa using h
    rfl
  | x :: y :: r, m, h => by
    obtain ⟨k, rfl⟩ : ∃ k, m = k + 1 := ⟨m - 1, by simp at h; omega⟩
    have ih := every2_range r k (by simp at h; omega)
    rw [List.range_succ_eq_map, List.filterMap_cons]
    simp only [Nat.mul_zero, List.getElem?_cons_zero, every2]
    rw [List.filterMap_map]
    congr 1
theorem sr2 (a b : Int) (h : 0 ≤ a) : sliceRange a b 2 = (List.range ((b - a + 1) / 2).toNat).map fun (k : Nat) => (a + 2 * (k : Int)).toNat := by
  unfold sliceRange
  rw [if_pos (by decide)]
  by_cases h : a < b
  · simp only [if_pos h]
    rw [show b - a + 2 - 1 = b - a + 1 by omega]
  · simp only [if_neg h]
    rw [show ((b - a + 1) / 2).toNat = 0 by omega]
    rfl
theorem pick_even {α : Type} (xs : List α) : pick3 xs none 2 = every2 xs := by
  rw [← every2_range xs ((xs.length + 1) / 2) rfl]
  unfold pick3
  have hb : sliceBounds none none (some 2) xs.length = (0, (xs.length : Int), 2) := by simp [sliceBounds]
  rw [hb, sr2 _ _ (by simp), List.filterMap_map]
  have e : (((xs.length : Int) - 0 + 1) / 2).toNat = (xs.length + 1) / 2 := by omega
  simp only [e]
  congr 1
  funext k
  show xs[(0 + 2 * (k : Int)).toNat]? = _
  congr 1
  omega
theorem pick_odd {α : Type} (xs : List α) : pick3 xs (some 1) 2 = every2 xs.tail := by
  cases xs with
  | nil => rfl
  | cons x r =>
    show _ = every2 r
    rw [← every2_range r ((r.length + 1) / 2) rfl]
    unfold pick3
    have hb : sliceBounds (some 1) none (some 2) (x :: r).length = (1, ((r.length : Int) + 1), 2) := by
      simp [sliceBounds]; omega
    rw [hb, sr2 _ _ (by simp), List.filterMap_map]
    have e : (((r.length : Int) + 1 - 1 + 1) / 2).toNat = (r.length + 1) / 2 := by omega
    simp only [e]
    congr 1
    funext k
    show (x :: r)[(1 + 2 * (k : Int)).toNat]? = _
    have : (1 + 2 * (k : Int)).toNat = 2 * k + 1 := by omega
    rw [this]; rfl
theorem pick3_map {α β : Type} (f : α → β) (xs : List α) (lo : Option Int) (k : Int) : pick3 (xs.map f) lo k = (pick3 xs lo k).map f := by
  unfold pick3
  rw [List.length_map, List.map_filterMap]
  congr 1
  funext i
  simp
theorem p_evI (xs : List Int) : prim (.slP 2) [dI xs] = .ok (dI (every2 xs)) := by
  rw [dI, p_slP _ _ (by decide)]
  show R.ok (D.list (pick3 (xs.map D.int) none 2)) = _
  rw [pick3_map, pick_even]; rfl
theorem p_odI (xs : List Int) : prim (.slP 2) [dI xs, .int 1] = .ok (dI (every2 xs.tail)) := by
  rw [dI, p_slP2 _ _ _ (by decide)]
  show R.ok (D.list (pick3 (xs.map D.int) (some 1) 2)) = _
  rw [pick3_map, pick_odd]; rfl

/-! ### sums with signs by turns -/
def alt : List Int → Int
  | [] => 0
  | x :: xs => x - alt xs
theorem alt_even : ∀ xs : List Int, alt xs = (every2 xs).sum - (every2 xs.tail).sum
  | [] => rfl
  | x :: xs => by
    have := alt_even xs
    rw [every2_cons, List.sum_cons, List.tail_cons, alt]
    omega
theorem alt_append : ∀ l m : List Int, alt (l ++ m) = if l.length % 2 = 0 then alt l + alt m else alt l - alt m
  | [], m => by simp [alt]
  | x :: l, m => by
    have := alt_append l m
    rw [List.cons_append, alt, this, alt, List.length_cons]
    by_cases h : l.length % 2 = 0
    · rw [if_pos h, if_neg (by omega)]; omega
    · rw [if_neg h, if_pos (by omega)]; omega
theorem alt_reverse (l : List Int) : alt l.reverse = if l.length % 2 = 0 then - alt l else alt l := by
  induction l with
  | nil => rfl
  | cons x l ih =>
    rw [List.reverse_cons, alt_append, ih, List.length_reverse, List.length_cons]
    show (if _ then _ + (x - 0) else _ - (x - 0)) = if _ then - (x - alt l) else x - alt l
    by_cases h : l.length % 2 = 0
    · rw [if_pos h, if_pos h, if_neg (by omega)]; omega
    · rw [if_neg h, if_neg h, if_pos (by omega)]; omega

/-! ### what may be shown -/
theorem shps_append (n : Nat) (xs ys : List D) : shps n (xs ++ ys) = (shps n xs && shps n ys) := by
  induction xs with
  | nil => simp [shps]
  | cons x xs ih => simp [shps, ih, Bool.and_assoc]
theorem wts_append (xs ys : List D) : wts (xs ++ ys) = wts xs + wts ys := by
  induction xs with
  | nil => simp [wts]
  | cons x xs ih => simp [wts, ih]; omega
theorem len_wts (xs : List D) : xs.length ≤ wts xs := by
  induction xs with
  | nil => simp
  | cons x xs ih => simp [wts]; omega
/-- ints that are not too great -/
def Ints (xs : List Int) : Prop := ∀ x ∈ xs, x.natAbs < 2 ^ 1000
theorem Ints.wt {xs : List Int} (h : Ints xs) : wts (xs.map D.int) ≤ 1004 * xs.length := wt_I (m := 0) xs h
theorem ints_of {xs : List Int} (h : ∀ x ∈ xs, -18446744073709551616 < x ∧ x < 18446744073709551616) : Ints xs := fun x hx => by
  have h1 := h x hx
  have h2 : (18446744073709551616 : Nat) < 2 ^ 1000 := by decide +kernel
  omega
theorem repr_I {xs : List Int} (h : Ints xs) (hl : xs.length ≤ 10000) : prim .repr [dI xs] = .ok (.str (dI xs).py.shown) := by
  refine p_repr _ (shp_I 11 xs) ?_
  have := h.wt
  show wts (xs.map D.int) + 2 ≤ _
  omega
theorem p_addIL (xs : List Int) (ys : List D) (h : xs.length + ys.length ≤ 16777216) : prim .add [dI xs, .list ys] = .ok (.list (xs.map D.int ++ ys)) := by
  rw [dI, p_addl _ _ (by simpa using h)]
theorem p_addLI (xs : List D) (ys : List Int) (h : xs.length + ys.length ≤ 16777216) : prim .add [.list xs, dI ys] = .ok (.list (xs ++ ys.map D.int)) := by
  rw [dI, p_addl _ _ (by simpa using h)]
theorem p_sum2I (x : List Int) (xs : List (List Int)) (h : (x :: xs).flatten.length ≤ 16777216) : prim .sum2 [.list ((x :: xs).map dI), .list []] = .ok (dI (x :: xs).flatten) := by
  have e := listsOf_map (x :: xs)
  rw [List.map_cons] at e ⊢
  show scOk .sum2 (match listsOf (dI x :: xs.map dI) with | some ys => if ys.flatten.length ≤ SZ then .ok (.list ys.flatten) else .bad | none => .bad) = _
  rw [e]
  have e2 : (((x :: xs).map (·.map D.int)).flatten) = (x :: xs).flatten.map D.int := by rw [List.map_flatten]
  show scOk .sum2 (if ((x :: xs).map (·.map D.int)).flatten.length ≤ SZ then _ else _) = _
  rw [e2, if_pos (by rw [List.length_map]; exact h)]
  rfl
theorem rep_ones (n : Nat) (a : D) : (List.replicate n [a]).flatten = List.replicate n a := by
  induction n with
  | zero => rfl
  | succ n ih => rw [List.replicate_succ, List.flatten_cons, ih]; rfl
theorem map_rep (n : Nat) (i : Int) : (List.replicate n (D.int i)) = (List.replicate n i).map D.int := by simp
theorem All2.length {α β : Type} {Q : α → β → Prop} {l : List α} {m : List β} (h : All2 Q l m) : m.length = l.length := by
  induction h with
  | nil => rfl
  | cons _ _ ih => simp [ih]
/-- ints by a property of each -/
theorem All2.ints {α : Type} {p : Int → Prop} {l : List α} {m : List D} (h : All2 (fun _ x => ∃ i, x = .int i ∧ p i) l m) : ∃ xs : List Int, m = xs.map D.int ∧ (∀ x ∈ xs, p x) ∧ xs.length = l.length := by
  induction h with
  | nil => exact ⟨[], rfl, by simp, rfl⟩
  | cons h _ ih =>
    obtain ⟨i, rfl, hi⟩ := h
    obtain ⟨xs, rfl, hx, hl⟩ := ih
    refine ⟨i :: xs, rfl, fun x hm => ?_, by simp [hl]⟩
    cases hm with
    | head => exact hi
    | tail _ hm => exact hx x hm
theorem sum_le {xs : List Int} {m : Int} (h : ∀ x ∈ xs, x ≤ m) : xs.sum ≤ xs.length * m := by
  induction xs with
  | nil => simp
  | cons x xs ih =>
    have := ih (fun y hy => h y (List.mem_cons_of_mem _ hy))
    have := h x List.mem_cons_self
    simp only [List.sum_cons, List.length_cons]
    rw [Int.natCast_add, Int.add_mul]
    omega
theorem sum_set (xs : List Int) (k : Nat) (hk : k < xs.length) (d : Int) : (xs.set k (gi xs k + d)).sum = xs.sum + d := by
  induction xs generalizing k with
  | nil => simp at hk
  | cons x xs ih =>
    cases k with
    | zero => simp [gi]; omega
    | succ k =>
      have := ih k (by simpa using hk)
      simp [gi] at this ⊢
      omega
/-- an item, counted from the end if below 0 -/
def gm (xs : List Int) (i : Int) : Int := if i < 0 then gi xs (i + xs.length) else gi xs i
theorem p_idxM (xs : List Int) (i : Int) (h0 : -(xs.length : Int) ≤ i) (h : i < xs.length) : prim .idx [dI xs, .int i] = .ok (.int (gm xs i)) := by
  unfold gm
  by_cases hi : i < 0
  · rw [if_pos hi]
    refine p_idx _ _ _ ?_
    unfold at?
    rw [if_neg (by omega), if_pos (by simp; omega), List.length_map, List.getElem?_map]
    unfold gi
    rw [List.getD_eq_getElem?_getD, List.getElem?_eq_getElem (by omega)]
    rfl
  · rw [if_neg hi]
    exact p_idxI _ _ (by omega) h
theorem any_I (a : Int) (L : List Int) : ((L.map D.int).any fun z => eqv z (.int a)) = decide (a ∈ L) := by
  induction L with
  | nil => rfl
  | cons x L ih =>
    rw [List.map_cons, List.any_cons, ih]
    show ((x == a) || _) = _
    by_cases h : x = a
    · simp [h]
    · have h' : ¬ a = x := fun e => h e.symm
      simp [h, h']
theorem p_inI (a : Int) (L : List Int) : prim .isin [.int a, dI L] = .ok (.bool (decide (a ∈ L))) := by
  have h : (shp 12 (.int a) && shp 12 (dI L)) = true := by rw [shp_I]; rfl
  show scOk .isin (if (shp 12 (.int a) && shp 12 (dI L)) = true then _ else _) = _
  rw [if_pos h]
  show R.ok (D.bool _) = _
  rw [any_I]
theorem p_notinI (a : Int) (L : List Int) : prim .notin [.int a, dI L] = .ok (.bool (!decide (a ∈ L))) := by
  have h : (shp 12 (.int a) && shp 12 (dI L)) = true := by rw [shp_I]; rfl
  show scOk .notin ((if (shp 12 (.int a) && shp 12 (dI L)) = true then _ else _ : R D).bind pNot) = _
  rw [if_pos h]
  show R.ok (D.bool (!_)) = _
  rw [any_I]
theorem p_listI (xs : List Int) : prim .listof [dI xs] = .ok (dI xs) := rfl
theorem p_slAI (xs : List Int) (i j : Int) (h : 0 ≤ i) (h2 : 0 ≤ j) : prim .slA [dI xs, .int i, .int j] = .ok (dI ((xs.drop i.toNat).take (j.toNat - i.toNat))) := by
  rw [dI, p_slA, cut_map, dI]
  congr 3
  simp only [cut, HT.sIx]
  rw [if_neg (by omega), if_neg (by omega)]
  by_cases hi : i.toNat ≤ xs.length
  · rw [Nat.min_eq_left hi]
    by_cases hj : j.toNat ≤ xs.length
    · rw [Nat.min_eq_left hj]
    · rw [Nat.min_eq_right (by omega), List.take_of_length_le (by simp), List.take_of_length_le (by simp; omega)]
  · have e : min i.toNat xs.length = xs.length := Nat.min_eq_right (by omega)
    rw [e, List.drop_of_length_le (Nat.le_refl _), List.drop_of_length_le (show xs.length ≤ i.toNat by omega)]
    simp
/-- two of the same list, shown -/
theorem repr_two {xs : List Int} (h : Ints xs) (hl : xs.length ≤ 1000) : prim .repr [.list [dI xs, dI xs]] = .ok (.str (D.py (.list [dI xs, dI xs])).shown) := p_repr _ (by
      show (shp 11 (dI xs) && (shp 11 (dI xs) && true)) = true
      rw [shp_I]; rfl) (by
      have := h.wt
      show wts (xs.map D.int) + 2 + 2 + (wts (xs.map D.int) + 2 + 2 + 0) + 2 ≤ _
      omega)
theorem path_two (xs : List Int) (hl : xs.length ≤ 1000) : pathOk (.list [dI xs, dI xs]) [0] = true := by
    show decide ((xs.map D.int).length < SZ) = true
    rw [decide_eq_true]; rw [List.length_map]; show _ < 16777216; omega
end Fh
end
section
set_option maxRecDepth 100000
set_option maxHeartbeats 0
namespace Law
open PySem PySem.Spec PyProof.Rows L2 Fh
def top (i : Nat) : Stmt := PySem.Challenge.pw_foldhouse_k44_whole_ways_of_rulers.main.body.getD i (.Pass ⟨0, 0, 0, 0⟩)
/-- is_whole -/
def f0 : FD := { np := 1, ns := 1, io := false, lv := 9, scal := true, body :=
  (.cons (.ret (.bop true (.cons (.prim (.isinst .int) (.cons (.var 0) .nil)) (.cons (.prim .not (.cons (.prim (.isinst .bool) (.cons (.var 0) .nil)) .nil)) .nil)))) .nil) }
def f1_c0 : E := (.comp (.bop true (.cons (.call 0 (.cons (.var 1) .nil)) (.cons (.prim .gt (.cons (.var 1) (.cons (.cst (.int 0)) .nil))) .nil))) [1] (.one 1) (.over (.var 0)) .nil)
theorem f1_c0_ops {α : Type} {G : Nat → R D} {c : Fh.Callee} (es : Es) (ρ : DEnv) (k : R (List D × DEnv) → α) : aO G c (.cons f1_c0 es) ρ k = aE G c f1_c0 ρ (kO1 G c es k) := rfl
/-- is_ruler -/
def f1 : FD := { np := 1, ns := 2, io := false, lv := 9, scal := true, body :=
  (.cons (.ret (.bop true (.cons (.prim (.isinst .list) (.cons (.var 0) .nil)) (.cons (.prim .ne (.cons (.var 0) (.cons (.lst .nil) .nil))) (.cons (.prim .all (.cons f1_c0 .nil)) .nil))))) .nil) }
/-- check_ruler -/
def f2 : FD := { np := 1, ns := 1, io := false, lv := 9, scal := true, body :=
  (.cons (.ite (.prim .not (.cons (.call 1 (.cons (.var 0) .nil)) .nil)) (.cons .never .nil) .nil) .nil) }
def f3_c0 : E := (.comp (.bop true (.cons (.prim (.isinst .str) (.cons (.var 2) .nil)) (.cons (.prim .isin (.cons (.var 2) (.cons (.tup (.cons (.cst (.str (cs [108]))) (.cons (.cst (.str (cs [114]))) .nil))) .nil))) .nil))) [2] (.one 2) (.over (.var 1)) .nil)
theorem f3_c0_ops {α : Type} {G : Nat → R D} {c : Fh.Callee} (es : Es) (ρ : DEnv) (k : R (List D × DEnv) → α) : aO G c (.cons f3_c0 es) ρ k = aE G c f3_c0 ρ (kO1 G c es k) := rfl
/-- are_laid_ways_of -/
def f3 : FD := { np := 2, ns := 3, io := false, lv := 9, scal := true, body :=
  (.cons (.ite (.bop false (.cons (.prim .not (.cons (.prim (.isinst .list) (.cons (.var 1) .nil)) .nil)) (.cons (.prim .ne (.cons (.prim .len (.cons (.var 1) .nil)) (.cons (.prim .len (.cons (.var 0) .nil)) .nil))) .nil))) (.cons (.ret (.cst (.bool false))) .nil) .nil) (.cons (.ret (.bop true (.cons (.prim .all (.cons f3_c0 .nil)) (.cons (.prim .eq (.cons (.prim .idx (.cons (.var 1) (.cons (.cst (.int 0)) .nil))) (.cons (.cst (.str (cs [114]))) .nil))) .nil)))) .nil)) }
/-- are_laid_ways -/
def f4 : FD := { np := 2, ns := 2, io := false, lv := 9, scal := true, body :=
  (.cons (.exp (.call 2 (.cons (.var 0) .nil))) (.cons (.ret (.call 3 (.cons (.var 0) (.cons (.var 1) .nil)))) .nil)) }
/-- check_laid_ways -/
def f5 : FD := { np := 2, ns := 2, io := false, lv := 9, scal := true, body :=
  (.cons (.exp (.call 2 (.cons (.var 0) .nil))) (.cons (.ite (.prim .not (.cons (.call 3 (.cons (.var 0) (.cons (.var 1) .nil))) .nil)) (.cons .never .nil) .nil) .nil)) }
def f6_b0 : Ss := (.cons (.app 2 (.prim .add (.cons (.prim .idx (.cons (.var 2) (.cons (.prim .neg (.cons (.cst (.int 1)) .nil)) .nil))) (.cons (.ife (.prim .eq (.cons (.var 4) (.cons (.cst (.str (cs [114]))) .nil))) (.var 3) (.prim .sub (.cons (.cst (.int 0)) (.cons (.var 3) .nil)))) .nil)))) .nil)
def f6_l0 : S := .for_ (.tup [3, 4]) (.zips (.cons (.var 0) (.cons (.var 1) .nil))) f6_b0
/-- joints_in -/
def f6 : FD := { np := 2, ns := 5, io := false, lv := 1, scal := false, body :=
  (.cons (.asg 2 (.lst (.cons (.cst (.int 0)) .nil))) (.cons f6_l0 (.cons (.retv 2) .nil))) }
/-- case_in -/
def f7 : FD := { np := 2, ns := 3, io := false, lv := 9, scal := true, body :=
  (.cons (.asg 2 (.call 6 (.cons (.var 0) (.cons (.var 1) .nil)))) (.cons (.ret (.prim .sub (.cons (.prim .max1 (.cons (.var 2) .nil)) (.cons (.prim .min1 (.cons (.var 2) .nil)) .nil)))) .nil)) }
/-- joints_of -/
def f8 : FD := { np := 2, ns := 2, io := false, lv := 1, scal := false, body :=
  (.cons (.exp (.call 5 (.cons (.var 0) (.cons (.var 1) .nil)))) (.cons (.ret (.call 6 (.cons (.var 0) (.cons (.var 1) .nil)))) .nil)) }
/-- case_of -/
def f9 : FD := { np := 2, ns := 2, io := false, lv := 9, scal := true, body :=
  (.cons (.exp (.call 5 (.cons (.var 0) (.cons (.var 1) .nil)))) (.cons (.ret (.call 7 (.cons (.var 0) (.cons (.var 1) .nil)))) .nil)) }
/-- _law_hash -/
def f10 : FD := { np := 2, ns := 3, io := false, lv := 9, scal := true, body :=
  (.cons (.asg 2 (.prim .mod (.cons (.prim .intof (.cons (.prim .add (.cons (.prim .add (.cons (.prim .add (.cons (.prim .mul (.cons (.var 0) (.cons (.cst (.int 1140671)) .nil))) (.cons (.prim .mul (.cons (.prim .mul (.cons (.cst (.int 27644437)) (.cons (.var 1) .nil))) (.cons (.var 1) .nil))) .nil))) (.cons (.prim .mul (.cons (.cst (.int 131)) (.cons (.var 1) .nil))) .nil))) (.cons (.cst (.int 19)) .nil))) .nil)) (.cons (.cst (.int 2147483629)) .nil)))) (.cons (.asg 2 (.prim .mod (.cons (.prim .intof (.cons (.prim .add (.cons (.prim .add (.cons (.prim .mul (.cons (.var 2) (.cons (.var 2) .nil))) (.cons (.prim .mul (.cons (.cst (.int 62089)) (.cons (.var 1) .nil))) .nil))) (.cons (.cst (.int 32416187)) .nil))) .nil)) (.cons (.cst (.int 2147483587)) .nil)))) (.cons (.ret (.prim .mod (.cons (.prim .intof (.cons (.prim .mul (.cons (.var 2) (.cons (.cst (.int 48271)) .nil))) .nil)) (.cons (.cst (.int 2147483647)) .nil)))) .nil))) }
def f11_b0 : Ss := (.cons (.setix 0 (.cst (.int 2)) (.prim .add (.cons (.prim .idx (.cons (.var 0) (.cons (.cst (.int 2)) .nil))) (.cons (.cst (.int 1)) .nil)))) (.cons (.asg 2 (.prim .add (.cons (.prim .mul (.cons (.var 2) (.cons (.cst (.int 2147483587)) .nil))) (.cons (.call 10 (.cons (.prim .idx (.cons (.var 0) (.cons (.cst (.int 1)) .nil))) (.cons (.prim .idx (.cons (.var 0) (.cons (.cst (.int 2)) .nil))) .nil))) .nil)))) .nil))
def f11_l0 : S := .for_ (.one 3) (.range (.cons (.prim .add (.cons (.cst (.int 1)) (.cons (.prim .fdiv (.cons (.prim .bitlen (.cons (.var 1) .nil)) (.cons (.cst (.int 30)) .nil))) .nil))) .nil)) f11_b0
/-- _law_random -/
def f11 : FD := { np := 2, ns := 4, io := true, lv := 9, scal := true, body :=
  (.cons (.ite (.prim .gt (.cons (.prim .idx (.cons (.var 0) (.cons (.cst (.int 0)) .nil))) (.cons (.cst (.int 0)) .nil))) (.cons (.asg 2 (.prim .mod (.cons (.prim .intof (.cons (.prim .idx (.cons (.var 0) (.cons (.cst (.int 0)) .nil))) .nil)) (.cons (.var 1) .nil)))) (.cons (.setix 0 (.cst (.int 0)) (.prim .fdiv (.cons (.prim .idx (.cons (.var 0) (.cons (.cst (.int 0)) .nil))) (.cons (.var 1) .nil)))) (.cons (.retv 2) .nil))) .nil) (.cons (.asg 2 (.cst (.int 0))) (.cons f11_l0 (.cons (.ret (.prim .mod (.cons (.prim .intof (.cons (.var 2) .nil)) (.cons (.var 1) .nil)))) .nil)))) }
/-- _law_cell -/
def f12 : FD := { np := 2, ns := 2, io := false, lv := 0, scal := false, body :=
  (.cons (.ite (.prim .lt (.cons (.var 1) (.cons (.prim .len (.cons (.var 0) .nil)) .nil))) (.cons (.ret (.prim .idx (.cons (.var 0) (.cons (.var 1) .nil)))) .nil) .nil) (.cons (.ret (.prim .mod (.cons (.prim .sum1 (.cons (.prim .slH (.cons (.var 0) (.cons (.cst (.int 1)) .nil))) .nil)) (.cons (.cst (.int 1000003)) .nil)))) .nil)) }
/-- _law_generator -/
def f13 : FD := { np := 2, ns := 3, io := false, lv := 2, scal := false, body :=
  (.cons (.asg 2 (.call 12 (.cons (.var 0) (.cons (.var 1) .nil)))) (.cons (.ret (.lst (.cons (.prim .mod (.cons (.prim .intof (.cons (.prim .max2 (.cons (.prim .sub (.cons (.var 2) (.cons (.prim .pow (.cons (.cst (.int 10)) (.cons (.cst (.int 18)) .nil))) .nil))) (.cons (.cst (.int 0)) .nil))) .nil)) (.cons (.prim .pow (.cons (.prim .pow (.cons (.cst (.int 10)) (.cons (.cst (.int 60)) .nil))) (.cons (.cst (.int 10)) .nil))) .nil))) (.cons (.prim .mod (.cons (.prim .intof (.cons (.var 2) .nil)) (.cons (.cst (.int 2147483647)) .nil))) (.cons (.prim .mul (.cons (.cst (.int 1000)) (.cons (.var 1) .nil))) .nil))))) .nil)) }
/-- _law_pick -/
def f14 : FD := { np := 2, ns := 2, io := true, lv := 0, scal := false, body :=
  (.cons (.ret (.prim .idx (.cons (.var 1) (.cons (.callio 11 0 (.cons (.prim .len (.cons (.var 1) .nil)) .nil)) .nil)))) .nil) }
def f15_c0 : E := (.comp (.bop true (.cons (.prim .isin (.cons (.var 2) (.cons (.var 0) .nil))) (.cons (.call 15 (.cons (.prim .idx (.cons (.var 0) (.cons (.var 2) .nil))) (.cons (.prim .idx (.cons (.var 1) (.cons (.var 2) .nil))) .nil))) .nil))) [2] (.one 2) (.over (.var 1)) .nil)
theorem f15_c0_ops {α : Type} {G : Nat → R D} {c : Fh.Callee} (es : Es) (ρ : DEnv) (k : R (List D × DEnv) → α) : aO G c (.cons f15_c0 es) ρ k = aE G c f15_c0 ρ (kO1 G c es k) := rfl
def f15_c1 : E := (.comp (.call 15 (.cons (.var 3) (.cons (.var 4) .nil))) [3, 4] (.tup [3, 4]) (.zip (.cons (.var 0) (.cons (.var 1) .nil))) .nil)
theorem f15_c1_ops {α : Type} {G : Nat → R D} {c : Fh.Callee} (es : Es) (ρ : DEnv) (k : R (List D × DEnv) → α) : aO G c (.cons f15_c1 es) ρ k = aE G c f15_c1 ρ (kO1 G c es k) := rfl
/-- _law_same -/
def f15 : FD := { np := 2, ns := 5, io := false, lv := 9, scal := true, body :=
  (.cons (.ite (.prim (.isinst2 .list .tup) (.cons (.var 1) .nil)) (.cons (.ite (.bop false (.cons (.prim .ne (.cons (.prim (.isinst .list) (.cons (.var 0) .nil)) (.cons (.prim (.isinst .list) (.cons (.var 1) .nil)) .nil))) (.cons (.prim .ne (.cons (.prim (.isinst .tup) (.cons (.var 0) .nil)) (.cons (.prim (.isinst .tup) (.cons (.var 1) .nil)) .nil))) .nil))) (.cons (.ret (.cst (.bool false))) .nil) .nil) (.cons (.ret (.bop true (.cons (.prim .eq (.cons (.prim .len (.cons (.var 0) .nil)) (.cons (.prim .len (.cons (.var 1) .nil)) .nil))) (.cons (.prim .all (.cons f15_c1 .nil)) .nil)))) .nil)) .nil) (.cons (.ite (.prim (.isinst .dict) (.cons (.var 1) .nil)) (.cons (.ite (.bop false (.cons (.prim .not (.cons (.prim (.isinst .dict) (.cons (.var 0) .nil)) .nil)) (.cons (.prim .ne (.cons (.prim .len (.cons (.var 0) .nil)) (.cons (.prim .len (.cons (.var 1) .nil)) .nil))) .nil))) (.cons (.ret (.cst (.bool false))) .nil) .nil) (.cons (.ret (.prim .all (.cons f15_c0 .nil))) .nil)) .nil) (.cons (.ite (.prim (.isinst .str) (.cons (.var 1) .nil)) (.cons (.ret (.bop true (.cons (.prim (.isinst .str) (.cons (.var 0) .nil)) (.cons (.prim .eq (.cons (.var 0) (.cons (.var 1) .nil))) .nil)))) .nil) .nil) (.cons (.ite (.prim .isq (.cons (.var 1) (.cons (.cst .non) .nil))) (.cons (.ret (.prim .isq (.cons (.var 0) (.cons (.cst .non) .nil)))) .nil) .nil) (.cons (.ret (.bop true (.cons (.prim (.isinst .int) (.cons (.var 0) .nil)) (.cons (.prim .eq (.cons (.prim (.isinst .bool) (.cons (.var 0) .nil)) (.cons (.prim (.isinst .bool) (.cons (.var 1) .nil)) .nil))) (.cons (.prim .eq (.cons (.var 0) (.cons (.var 1) .nil))) .nil))))) .nil))))) }
def f16_c0 : E := (.comp (.prim .add (.cons (.cst (.int 1)) (.cons (.callio 11 0 (.cons (.var 2) .nil)) .nil))) [3] (.one 3) (.range (.cons (.prim .add (.cons (.cst (.int 1)) (.cons (.callio 11 0 (.cons (.var 1) .nil)) .nil))) .nil)) .nil)
theorem f16_c0_ops {α : Type} {G : Nat → R D} {c : Fh.Callee} (es : Es) (ρ : DEnv) (k : R (List D × DEnv) → α) : aO G c (.cons f16_c0 es) ρ k = aE G c f16_c0 ρ (kO1 G c es k) := rfl
/-- _law_ruler -/
def f16 : FD := { np := 3, ns := 4, io := true, lv := 2, scal := false, body :=
  (.cons (.ret f16_c0) .nil) }
def f17_b0 : Ss := (.cons (.asg 2 (.prim .add (.cons (.var 2) (.cons (.lst (.cons (.prim .add (.cons (.prim .idx (.cons (.var 2) (.cons (.prim .neg (.cons (.cst (.int 1)) .nil)) .nil))) (.cons (.ife (.prim .eq (.cons (.var 4) (.cons (.cst (.str (cs [114]))) .nil))) (.var 3) (.prim .sub (.cons (.cst (.int 0)) (.cons (.var 3) .nil)))) .nil))) .nil)) .nil)))) .nil)
def f17_l0 : S := .for_ (.tup [3, 4]) (.zip (.cons (.var 0) (.cons (.var 1) .nil))) f17_b0
/-- _law_joints -/
def f17 : FD := { np := 2, ns := 5, io := false, lv := 1, scal := false, body :=
  (.cons (.asg 2 (.lst (.cons (.cst (.int 0)) .nil))) (.cons f17_l0 (.cons (.retv 2) .nil))) }
/-- _law_needed -/
def f18 : FD := { np := 2, ns := 3, io := false, lv := 9, scal := true, body :=
  (.cons (.asg 2 (.call 17 (.cons (.var 0) (.cons (.var 1) .nil)))) (.cons (.ret (.prim .sub (.cons (.prim .max1 (.cons (.var 2) .nil)) (.cons (.prim .min1 (.cons (.var 2) .nil)) .nil)))) .nil)) }
def f19_c0 : E := (.comp (.var 2) [2] (.one 2) (.over (.var 1)) (.cons (.bop false (.cons (.prim .not (.cons (.prim (.isinst .str) (.cons (.var 2) .nil)) .nil)) (.cons (.prim .notin (.cons (.var 2) (.cons (.lst (.cons (.cst (.str (cs [108]))) (.cons (.cst (.str (cs [114]))) .nil))) .nil))) .nil))) .nil))
theorem f19_c0_ops {α : Type} {G : Nat → R D} {c : Fh.Callee} (es : Es) (ρ : DEnv) (k : R (List D × DEnv) → α) : aO G c (.cons f19_c0 es) ρ k = aE G c f19_c0 ρ (kO1 G c es k) := rfl
/-- _law_are_ways -/
def f19 : FD := { np := 2, ns := 3, io := false, lv := 9, scal := true, body :=
  (.cons (.ite (.bop false (.cons (.prim .not (.cons (.prim (.isinst .list) (.cons (.var 1) .nil)) .nil)) (.cons (.prim .ne (.cons (.prim .len (.cons (.var 1) .nil)) (.cons (.prim .len (.cons (.var 0) .nil)) .nil))) (.cons (.prim .ne (.cons f19_c0 (.cons (.lst .nil) .nil))) .nil)))) (.cons (.ret (.cst (.bool false))) .nil) .nil) (.cons (.ret (.prim .eq (.cons (.prim .idx (.cons (.var 1) (.cons (.cst (.int 0)) .nil))) (.cons (.cst (.str (cs [114]))) .nil)))) .nil)) }
def f20_c0 : E := (.comp (.ife (.prim .eq (.cons (.var 14) (.cons (.cst (.str (cs [114]))) .nil))) (.cst (.str (cs [108]))) (.cst (.str (cs [114])))) [14] (.one 14) (.over (.var 7)) .nil)
theorem f20_c0_ops {α : Type} {G : Nat → R D} {c : Fh.Callee} (es : Es) (ρ : DEnv) (k : R (List D × DEnv) → α) : aO G c (.cons f20_c0 es) ρ k = aE G c f20_c0 ρ (kO1 G c es k) := rfl
def f20_c1 : E := (.comp (.ife (.prim .eq (.cons (.prim .idx (.cons (.var 2) (.cons (.prim .neg (.cons (.cst (.int 1)) .nil)) .nil))) (.cons (.cst (.str (cs [108]))) .nil))) (.var 14) (.ife (.prim .eq (.cons (.var 14) (.cons (.cst (.str (cs [114]))) .nil))) (.cst (.str (cs [108]))) (.cst (.str (cs [114]))))) [14] (.one 14) (.over (.prim .slR (.cons (.var 2) .nil))) .nil)
theorem f20_c1_ops {α : Type} {G : Nat → R D} {c : Fh.Callee} (es : Es) (ρ : DEnv) (k : R (List D × DEnv) → α) : aO G c (.cons f20_c1 es) ρ k = aE G c f20_c1 ρ (kO1 G c es k) := rfl
def f20_b0 : Ss := (.cons (.par [12, 13] (.cons (.call 19 (.cons (.var 1) (.cons (.var 6) .nil))) (.cons (.prim .repr (.cons (.var 6) .nil)) .nil))) (.cons (.ite (.bop false (.cons (.prim .not (.cons (.callz 15 (.cons (.lst (.cons (.call 4 (.cons (.var 1) (.cons (.var 6) .nil))) (.cons (.call 24 (.cons (.var 6) (.cons (.var 1) .nil))) .nil))) (.cons (.lst (.cons (.var 12) (.cons (.var 12) .nil))) .nil))) .nil)) (.cons (.prim .ne (.cons (.prim .repr (.cons (.var 6) .nil)) (.cons (.var 13) .nil))) .nil))) (.cons (.ret (.cst (.bool false))) .nil) .nil) .nil))
def f20_l0 : S := .for_ (.one 6) (.over (.var 4)) f20_b0
def f20_b1 : Ss := (.cons (.app 4 (.prim .add (.cons (.prim .add (.cons (.prim .slH (.cons (.var 2) (.cons (.var 9) .nil))) (.cons (.lst (.cons (.var 5) .nil)) .nil))) (.cons (.prim .slL (.cons (.var 2) (.cons (.prim .add (.cons (.var 9) (.cons (.cst (.int 1)) .nil))) .nil))) .nil)))) .nil)
def f20_l1 : S := .for_ (.one 5) (.over (.lst (.cons (.cst .non) (.cons (.cst (.str (cs []))) (.cons (.cst (.str (cs [82]))) (.cons (.cst (.str (cs [114, 108]))) (.cons (.cst (.str (cs [108, 101, 102, 116]))) (.cons (.cst (.int 1)) (.cons (.cst (.bool true)) (.cons (.lst (.cons (.cst (.str (cs [114]))) .nil)) (.cons (.tup (.cons (.cst (.str (cs [114]))) .nil)) (.cons (.cst (.str (cs [108]))) (.cons (.cst (.str (cs [114]))) .nil))))))))))))) f20_b1
def f20_c2 : E := (.comp (.callio 14 0 (.cons (.lst (.cons (.cst (.str (cs [108]))) (.cons (.cst (.str (cs [114]))) .nil))) .nil)) [15] (.one 15) (.over (.prim .slL (.cons (.var 1) (.cons (.cst (.int 1)) .nil)))) .nil)
theorem f20_c2_ops {α : Type} {G : Nat → R D} {c : Fh.Callee} (es : Es) (ρ : DEnv) (k : R (List D × DEnv) → α) : aO G c (.cons f20_c2 es) ρ k = aE G c f20_c2 ρ (kO1 G c es k) := rfl
/-- _law_right -/
def f20 : FD := { np := 2, ns := 16, io := true, lv := 9, scal := true, body :=
  (.cons (.asg 2 (.prim .add (.cons (.lst (.cons (.cst (.str (cs [114]))) .nil)) (.cons f20_c2 .nil)))) (.cons (.par [8, 9] (.cons (.prim .repr (.cons (.lst (.cons (.var 1) (.cons (.var 2) .nil))) .nil)) (.cons (.callio 11 0 (.cons (.prim .len (.cons (.var 2) .nil)) .nil)) .nil))) (.cons (.par [10, 11] (.cons (.call 17 (.cons (.var 1) (.cons (.var 2) .nil))) (.cons (.call 18 (.cons (.var 1) (.cons (.var 2) .nil))) .nil))) (.cons (.asg 3 (.call 8 (.cons (.var 1) (.cons (.var 2) .nil)))) (.cons (.ite (.bop false (.cons (.prim .not (.cons (.callz 15 (.cons (.lst (.cons (.var 3) (.cons (.call 22 (.cons (.var 2) (.cons (.var 1) .nil))) .nil))) (.cons (.lst (.cons (.var 10) (.cons (.var 10) .nil))) .nil))) .nil)) (.cons (.prim .not (.cons (.callz 15 (.cons (.lst (.cons (.call 9 (.cons (.var 1) (.cons (.var 2) .nil))) (.cons (.call 23 (.cons (.var 2) (.cons (.var 1) .nil))) .nil))) (.cons (.lst (.cons (.var 11) (.cons (.var 11) .nil))) .nil))) .nil)) .nil))) (.cons (.ret (.cst (.bool false))) .nil) .nil) (.cons (.app 3 (.cst .non)) (.cons (.asg 4 (.lst (.cons (.var 2) (.cons (.prim .mul (.cons (.lst (.cons (.cst (.str (cs [114]))) .nil)) (.cons (.prim .len (.cons (.var 2) .nil)) .nil))) (.cons (.prim .mul (.cons (.lst (.cons (.cst (.str (cs [108]))) .nil)) (.cons (.prim .len (.cons (.var 2) .nil)) .nil))) (.cons (.prim .slL (.cons (.var 2) (.cons (.cst (.int 1)) .nil))) (.cons (.prim .add (.cons (.var 2) (.cons (.lst (.cons (.cst (.str (cs [114]))) .nil)) .nil))) (.cons (.prim .tupof (.cons (.var 2) .nil)) (.cons (.prim (.joinS (cs [])) (.cons (.var 2) .nil)) (.cons (.cst .non) (.cons (.tup .nil) (.cons (.lst .nil) (.cons .dct (.cons (.prim .slR (.cons (.var 2) .nil)) .nil)))))))))))))) (.cons f20_l1 (.cons f20_l0 (.cons (.asg 7 f20_c1) (.cons (.asg 7 (.ife (.prim .eq (.cons (.prim .idx (.cons (.var 7) (.cons (.cst (.int 0)) .nil))) (.cons (.cst (.str (cs [108]))) .nil))) f20_c0 (.var 7))) (.cons (.ret (.bop true (.cons (.prim .eq (.cons (.call 9 (.cons (.prim .slR (.cons (.var 1) .nil)) (.cons (.var 7) .nil))) (.cons (.var 11) .nil))) (.cons (.prim .eq (.cons (.prim .repr (.cons (.lst (.cons (.var 1) (.cons (.var 2) .nil))) .nil)) (.cons (.var 8) .nil))) .nil)))) .nil)))))))))))) }
def f21_b0 : Ss := (.cons (.ite (.prim .not (.cons (.call 15 (.cons (.lst (.cons (.call 1 (.cons (.var 4) .nil)) (.cons (.call 1 (.cons (.var 4) .nil)) .nil))) (.cons (.lst (.cons (.cst (.bool false)) (.cons (.cst (.bool false)) .nil))) .nil))) .nil)) (.cons (.ret (.cst (.bool false))) .nil) .nil) .nil)
def f21_l0 : S := .for_ (.one 4) (.over (.lst (.cons (.cst .non) (.cons (.tup .nil) (.cons (.lst .nil) (.cons .dct (.cons (.cst (.str (cs [114, 117, 108, 101, 114]))) (.cons (.prim .tupof (.cons (.var 5) .nil)) (.cons (.prim .add (.cons (.var 5) (.cons (.lst (.cons (.cst (.int 0)) .nil)) .nil))) (.cons (.prim .add (.cons (.var 5) (.cons (.lst (.cons (.prim .neg (.cons (.cst (.int 1)) .nil)) .nil)) .nil))) (.cons (.prim .add (.cons (.var 5) (.cons (.lst (.cons (.cst (.bool true)) .nil)) .nil))) (.cons (.prim .add (.cons (.var 5) (.cons (.lst (.cons (.cst .non) .nil)) .nil))) (.cons (.prim .add (.cons (.lst (.cons (.cst (.str (cs [52]))) .nil)) (.cons (.var 5) .nil))) (.cons (.lst (.cons (.var 5) .nil)) (.cons (.prim .add (.cons (.var 5) (.cons (.lst (.cons (.tup (.cons (.cst (.int 1)) .nil)) .nil)) .nil))) .nil))))))))))))))) f21_b0
def f21_b1 : Ss := (.cons (.asg 5 (.callio 16 2 (.cons (.cst (.int 8)) (.cons (.var 3) .nil)))) (.cons (.ite (.bop false (.cons (.prim .not (.cons (.callio 20 2 (.cons (.var 5) .nil)) .nil)) (.cons (.prim .not (.cons (.call 15 (.cons (.lst (.cons (.call 1 (.cons (.var 5) .nil)) (.cons (.call 1 (.cons (.var 5) .nil)) .nil))) (.cons (.lst (.cons (.cst (.bool true)) (.cons (.cst (.bool true)) .nil))) .nil))) .nil)) .nil))) (.cons (.ret (.cst (.bool false))) .nil) .nil) .nil))
def f21_l1 : S := .for_ (.one 3) (.over (.lst (.cons (.cst (.int 3)) (.cons (.cst (.int 60)) .nil)))) f21_b1
def f21_b2 : Ss := (.cons (.asg 2 (.call 13 (.cons (.var 0) (.cons (.var 1) .nil)))) (.cons f21_l1 (.cons f21_l0 .nil)))
def f21_l2 : S := .for_ (.one 1) (.range (.cons (.cst (.int 3)) .nil)) f21_b2
/-- law -/
def f21 : FD := { np := 1, ns := 6, io := false, lv := 9, scal := true, body :=
  (.cons f21_l2 (.cons (.ret (.call 15 (.cons (.lst (.cons (.call 8 (.cons (.lst (.cons (.cst (.int 4)) (.cons (.cst (.int 3)) (.cons (.cst (.int 2)) (.cons (.cst (.int 5)) .nil))))) (.cons (.lst (.cons (.cst (.str (cs [114]))) (.cons (.cst (.str (cs [108]))) (.cons (.cst (.str (cs [114]))) (.cons (.cst (.str (cs [108]))) .nil))))) .nil))) (.cons (.call 9 (.cons (.lst (.cons (.cst (.int 4)) (.cons (.cst (.int 3)) (.cons (.cst (.int 2)) (.cons (.cst (.int 5)) .nil))))) (.cons (.lst (.cons (.cst (.str (cs [114]))) (.cons (.cst (.str (cs [108]))) (.cons (.cst (.str (cs [114]))) (.cons (.cst (.str (cs [108]))) .nil))))) .nil))) (.cons (.call 9 (.cons (.lst (.cons (.cst (.int 60)) (.cons (.cst (.int 1)) .nil))) (.cons (.lst (.cons (.cst (.str (cs [114]))) (.cons (.cst (.str (cs [114]))) .nil))) .nil))) .nil)))) (.cons (.lst (.cons (.lst (.cons (.cst (.int 0)) (.cons (.cst (.int 4)) (.cons (.cst (.int 1)) (.cons (.cst (.int 3)) (.cons (.prim .neg (.cons (.cst (.int 2)) .nil)) .nil)))))) (.cons (.cst (.int 6)) (.cons (.cst (.int 61)) .nil)))) .nil)))) .nil)) }
/-- joints_of -/
def f22 : FD := { np := 2, ns := 2, io := false, lv := 1, scal := false, body :=
  (.cons (.exp (.call 5 (.cons (.var 1) (.cons (.var 0) .nil)))) (.cons (.ret (.call 6 (.cons (.var 1) (.cons (.var 0) .nil)))) .nil)) }
/-- case_of -/
def f23 : FD := { np := 2, ns := 2, io := false, lv := 9, scal := true, body :=
  (.cons (.exp (.call 5 (.cons (.var 1) (.cons (.var 0) .nil)))) (.cons (.ret (.call 7 (.cons (.var 1) (.cons (.var 0) .nil)))) .nil)) }
/-- are_laid_ways -/
def f24 : FD := { np := 2, ns := 2, io := false, lv := 9, scal := true, body :=
  (.cons (.exp (.call 2 (.cons (.var 1) .nil))) (.cons (.ret (.call 3 (.cons (.var 1) (.cons (.var 0) .nil)))) .nil)) }
def dfs : List DF := [
  ⟨top 5, "is_whole", ["value"], ["value"], [[]], f0⟩,
  ⟨top 7, "is_ruler", ["value", "link"], ["value"], [[], ["value"]], f1⟩,
  ⟨top 8, "check_ruler", ["ruler"], ["ruler"], [[]], f2⟩,
  ⟨top 9, "are_laid_ways_of", ["ruler", "value", "way"], ["ruler", "value"], [[]], f3⟩,
  ⟨top 10, "are_laid_ways", ["ruler", "value"], ["ruler", "value"], [[]], f4⟩,
  ⟨top 11, "check_laid_ways", ["ruler", "ways"], ["ruler", "ways"], [[]], f5⟩,
  ⟨top 12, "joints_in", ["ruler", "ways", "found", "link", "way"], ["ruler", "ways"], [[]], f6⟩,
  ⟨top 13, "case_in", ["ruler", "ways", "joints"], ["ruler", "ways"], [[]], f7⟩,
  ⟨top 14, "joints_of", ["ruler", "ways"], ["ruler", "ways"], [[]], f8⟩,
  ⟨top 15, "case_of", ["ruler", "ways"], ["ruler", "ways"], [[]], f9⟩,
  ⟨top 17, "_law_hash", ["seed", "index", "mixed"], ["seed", "index"], [[]], f10⟩,
  ⟨top 18, "_law_random", ["generator", "bound", "drawn", "turn"], ["generator", "bound"], [[]], f11⟩,
  ⟨top 19, "_law_cell", ["script", "index"], ["script", "index"], [[]], f12⟩,
  ⟨top 20, "_law_generator", ["script", "index", "seed"], ["script", "index"], [[]], f13⟩,
  ⟨top 21, "_law_pick", ["generator", "things"], ["generator", "things"], [[]], f14⟩,
  ⟨top 22, "_law_same", ["found", "due", "key", "one", "other"], ["found", "due"], [[]], f15⟩,
  ⟨top 23, "_law_ruler", ["generator", "most", "far", "link"], ["generator", "most", "far"], [[]], f16⟩,
  ⟨top 24, "_law_joints", ["ruler", "ways", "found", "link", "way"], ["ruler", "ways"], [[]], f17⟩,
  ⟨top 25, "_law_needed", ["ruler", "ways", "joints"], ["ruler", "ways"], [[]], f18⟩,
  ⟨top 26, "_law_are_ways", ["ruler", "value", "way"], ["ruler", "value"], [[]], f19⟩,
  ⟨top 27, "_law_right", ["generator", "ruler", "ways", "told", "values", "odd", "value", "back", "kept", "at", "joints", "needed", "due", "shown", "way", "link"], ["generator", "ruler"], [[]], f20⟩,
  ⟨top 28, "law", ["script", "index", "generator", "far", "bad", "ruler"], ["script"], [[]], f21⟩,
  ⟨top 14, "joints_of", ["ways", "ruler"], ["ways", "ruler"], [["ways", "ruler"]], f22⟩,
  ⟨top 15, "case_of", ["ways", "ruler"], ["ways", "ruler"], [["ways", "ruler"]], f23⟩,
  ⟨top 10, "are_laid_ways", ["value", "ruler"], ["value", "ruler"], [["value", "ruler"]], f24⟩]
def gls : List (Str × D) := []
def Ans : Prop := ∀ zs : List Int, zs.length ≤ 63 → callD (progOf dfs) (globOf gls) 1000000 40 21 [.list (zs.map D.int)] = .ok (.bool true, none)
end Law
end
section
set_option maxRecDepth 100000
set_option maxHeartbeats 0
namespace Law
open PySem PySem.Spec PyProof.Rows L2 Fh
theorem all_ok : ∀ d ∈ dfs, dfOk (infoOf dfs gls) d = true := List.all_eq_true.mp (by decide +kernel : (dfs.all fun d => dfOk (infoOf dfs gls) d) = true)
theorem b0_0 : BindK (dfs.getD 0 ⟨.Pass ⟨0,0,0,0⟩, "", [], [], [], f0⟩) [] := by
  intro kV doc pm an cdv ct us ws h1 h2
  have h1 : us.length = 1 := by have e : us.length + 0 = 1 := h1; omega
  have h2 : ws.length = 0 := h2
  match us, ws, h1, h2 with | [_], [], _, _ => exact ⟨_, rfl, .refl _⟩
theorem b1_0 : BindK (dfs.getD 1 ⟨.Pass ⟨0,0,0,0⟩, "", [], [], [], f0⟩) [] := by
  intro kV doc pm an cdv ct us ws h1 h2
  have h1 : us.length = 1 := by have e : us.length + 0 = 1 := h1; omega
  have h2 : ws.length = 0 := h2
  match us, ws, h1, h2 with | [_], [], _, _ => exact ⟨_, rfl, .refl _⟩
theorem b1_1 : BindK (dfs.getD 1 ⟨.Pass ⟨0,0,0,0⟩, "", [], [], [], f0⟩) ["value"] := by
  intro kV doc pm an cdv ct us ws h1 h2
  have h1 : us.length = 0 := by have e : us.length + 1 = 1 := h1; omega
  have h2 : ws.length = 1 := h2
  match us, ws, h1, h2 with | [], [_], _, _ => exact ⟨_, rfl, .refl _⟩
theorem b2_0 : BindK (dfs.getD 2 ⟨.Pass ⟨0,0,0,0⟩, "", [], [], [], f0⟩) [] := by
  intro kV doc pm an cdv ct us ws h1 h2
  have h1 : us.length = 1 := by have e : us.length + 0 = 1 := h1; omega
  have h2 : ws.length = 0 := h2
  match us, ws, h1, h2 with | [_], [], _, _ => exact ⟨_, rfl, .refl _⟩
theorem b3_0 : BindK (dfs.getD 3 ⟨.Pass ⟨0,0,0,0⟩, "", [], [], [], f0⟩) [] := by
  intro kV doc pm an cdv ct us ws h1 h2
  have h1 : us.length = 2 := by have e : us.length + 0 = 2 := h1; omega
  have h2 : ws.length = 0 := h2
  match us, ws, h1, h2 with | [_, _], [], _, _ => exact ⟨_, rfl, .refl _⟩
theorem b4_0 : BindK (dfs.getD 4 ⟨.Pass ⟨0,0,0,0⟩, "", [], [], [], f0⟩) [] := by
  intro kV doc pm an cdv ct us ws h1 h2
  have h1 : us.length = 2 := by have e : us.length + 0 = 2 := h1; omega
  have h2 : ws.length = 0 := h2
  match us, ws, h1, h2 with | [_, _], [], _, _ => exact ⟨_, rfl, .refl _⟩
theorem b5_0 : BindK (dfs.getD 5 ⟨.Pass ⟨0,0,0,0⟩, "", [], [], [], f0⟩) [] := by
  intro kV doc pm an cdv ct us ws h1 h2
  have h1 : us.length = 2 := by have e : us.length + 0 = 2 := h1; omega
  have h2 : ws.length = 0 := h2
  match us, ws, h1, h2 with | [_, _], [], _, _ => exact ⟨_, rfl, .refl _⟩
theorem b6_0 : BindK (dfs.getD 6 ⟨.Pass ⟨0,0,0,0⟩, "", [], [], [], f0⟩) [] := by
  intro kV doc pm an cdv ct us ws h1 h2
  have h1 : us.length = 2 := by have e : us.length + 0 = 2 := h1; omega
  have h2 : ws.length = 0 := h2
  match us, ws, h1, h2 with | [_, _], [], _, _ => exact ⟨_, rfl, .refl _⟩
theorem b7_0 : BindK (dfs.getD 7 ⟨.Pass ⟨0,0,0,0⟩, "", [], [], [], f0⟩) [] := by
  intro kV doc pm an cdv ct us ws h1 h2
  have h1 : us.length = 2 := by have e : us.length + 0 = 2 := h1; omega
  have h2 : ws.length = 0 := h2
  match us, ws, h1, h2 with | [_, _], [], _, _ => exact ⟨_, rfl, .refl _⟩
theorem b8_0 : BindK (dfs.getD 8 ⟨.Pass ⟨0,0,0,0⟩, "", [], [], [], f0⟩) [] := by
  intro kV doc pm an cdv ct us ws h1 h2
  have h1 : us.length = 2 := by have e : us.length + 0 = 2 := h1; omega
  have h2 : ws.length = 0 := h2
  match us, ws, h1, h2 with | [_, _], [], _, _ => exact ⟨_, rfl, .refl _⟩
theorem b9_0 : BindK (dfs.getD 9 ⟨.Pass ⟨0,0,0,0⟩, "", [], [], [], f0⟩) [] := by
  intro kV doc pm an cdv ct us ws h1 h2
  have h1 : us.length = 2 := by have e : us.length + 0 = 2 := h1; omega
  have h2 : ws.length = 0 := h2
  match us, ws, h1, h2 with | [_, _], [], _, _ => exact ⟨_, rfl, .refl _⟩
theorem b10_0 : BindK (dfs.getD 10 ⟨.Pass ⟨0,0,0,0⟩, "", [], [], [], f0⟩) [] := by
  intro kV doc pm an cdv ct us ws h1 h2
  have h1 : us.length = 2 := by have e : us.length + 0 = 2 := h1; omega
  have h2 : ws.length = 0 := h2
  match us, ws, h1, h2 with | [_, _], [], _, _ => exact ⟨_, rfl, .refl _⟩
theorem b11_0 : BindK (dfs.getD 11 ⟨.Pass ⟨0,0,0,0⟩, "", [], [], [], f0⟩) [] := by
  intro kV doc pm an cdv ct us ws h1 h2
  have h1 : us.length = 2 := by have e : us.length + 0 = 2 := h1; omega
  have h2 : ws.length = 0 := h2
  match us, ws, h1, h2 with | [_, _], [], _, _ => exact ⟨_, rfl, .refl _⟩
theorem b12_0 : BindK (dfs.getD 12 ⟨.Pass ⟨0,0,0,0⟩, "", [], [], [], f0⟩) [] := by
  intro kV doc pm an cdv ct us ws h1 h2
  have h1 : us.length = 2 := by have e : us.length + 0 = 2 := h1; omega
  have h2 : ws.length = 0 := h2
  match us, ws, h1, h2 with | [_, _], [], _, _ => exact ⟨_, rfl, .refl _⟩
theorem b13_0 : BindK (dfs.getD 13 ⟨.Pass ⟨0,0,0,0⟩, "", [], [], [], f0⟩) [] := by
  intro kV doc pm an cdv ct us ws h1 h2
  have h1 : us.length = 2 := by have e : us.length + 0 = 2 := h1; omega
  have h2 : ws.length = 0 := h2
  match us, ws, h1, h2 with | [_, _], [], _, _ => exact ⟨_, rfl, .refl _⟩
theorem b14_0 : BindK (dfs.getD 14 ⟨.Pass ⟨0,0,0,0⟩, "", [], [], [], f0⟩) [] := by
  intro kV doc pm an cdv ct us ws h1 h2
  have h1 : us.length = 2 := by have e : us.length + 0 = 2 := h1; omega
  have h2 : ws.length = 0 := h2
  match us, ws, h1, h2 with | [_, _], [], _, _ => exact ⟨_, rfl, .refl _⟩
theorem b15_0 : BindK (dfs.getD 15 ⟨.Pass ⟨0,0,0,0⟩, "", [], [], [], f0⟩) [] := by
  intro kV doc pm an cdv ct us ws h1 h2
  have h1 : us.length = 2 := by have e : us.length + 0 = 2 := h1; omega
  have h2 : ws.length = 0 := h2
  match us, ws, h1, h2 with | [_, _], [], _, _ => exact ⟨_, rfl, .refl _⟩
theorem b16_0 : BindK (dfs.getD 16 ⟨.Pass ⟨0,0,0,0⟩, "", [], [], [], f0⟩) [] := by
  intro kV doc pm an cdv ct us ws h1 h2
  have h1 : us.length = 3 := by have e : us.length + 0 = 3 := h1; omega
  have h2 : ws.length = 0 := h2
  match us, ws, h1, h2 with | [_, _, _], [], _, _ => exact ⟨_, rfl, .refl _⟩
theorem b17_0 : BindK (dfs.getD 17 ⟨.Pass ⟨0,0,0,0⟩, "", [], [], [], f0⟩) [] := by
  intro kV doc pm an cdv ct us ws h1 h2
  have h1 : us.length = 2 := by have e : us.length + 0 = 2 := h1; omega
  have h2 : ws.length = 0 := h2
  match us, ws, h1, h2 with | [_, _], [], _, _ => exact ⟨_, rfl, .refl _⟩
theorem b18_0 : BindK (dfs.getD 18 ⟨.Pass ⟨0,0,0,0⟩, "", [], [], [], f0⟩) [] := by
  intro kV doc pm an cdv ct us ws h1 h2
  have h1 : us.length = 2 := by have e : us.length + 0 = 2 := h1; omega
  have h2 : ws.length = 0 := h2
  match us, ws, h1, h2 with | [_, _], [], _, _ => exact ⟨_, rfl, .refl _⟩
theorem b19_0 : BindK (dfs.getD 19 ⟨.Pass ⟨0,0,0,0⟩, "", [], [], [], f0⟩) [] := by
  intro kV doc pm an cdv ct us ws h1 h2
  have h1 : us.length = 2 := by have e : us.length + 0 = 2 := h1; omega
  have h2 : ws.length = 0 := h2
  match us, ws, h1, h2 with | [_, _], [], _, _ => exact ⟨_, rfl, .refl _⟩
theorem b20_0 : BindK (dfs.getD 20 ⟨.Pass ⟨0,0,0,0⟩, "", [], [], [], f0⟩) [] := by
  intro kV doc pm an cdv ct us ws h1 h2
  have h1 : us.length = 2 := by have e : us.length + 0 = 2 := h1; omega
  have h2 : ws.length = 0 := h2
  match us, ws, h1, h2 with | [_, _], [], _, _ => exact ⟨_, rfl, .refl _⟩
theorem b21_0 : BindK (dfs.getD 21 ⟨.Pass ⟨0,0,0,0⟩, "", [], [], [], f0⟩) [] := by
  intro kV doc pm an cdv ct us ws h1 h2
  have h1 : us.length = 1 := by have e : us.length + 0 = 1 := h1; omega
  have h2 : ws.length = 0 := h2
  match us, ws, h1, h2 with | [_], [], _, _ => exact ⟨_, rfl, .refl _⟩
theorem b22_0 : BindK (dfs.getD 22 ⟨.Pass ⟨0,0,0,0⟩, "", [], [], [], f0⟩) ["ways", "ruler"] := by
  intro kV doc pm an cdv ct us ws h1 h2
  have h1 : us.length = 0 := by have e : us.length + 2 = 2 := h1; omega
  have h2 : ws.length = 2 := h2
  match us, ws, h1, h2 with | [], [_, _], _, _ => exact ⟨_, rfl, (List.perm_middle (l₁ := [_])).trans (.cons _ (.refl _))⟩
theorem b23_0 : BindK (dfs.getD 23 ⟨.Pass ⟨0,0,0,0⟩, "", [], [], [], f0⟩) ["ways", "ruler"] := by
  intro kV doc pm an cdv ct us ws h1 h2
  have h1 : us.length = 0 := by have e : us.length + 2 = 2 := h1; omega
  have h2 : ws.length = 2 := h2
  match us, ws, h1, h2 with | [], [_, _], _, _ => exact ⟨_, rfl, (List.perm_middle (l₁ := [_])).trans (.cons _ (.refl _))⟩
theorem b24_0 : BindK (dfs.getD 24 ⟨.Pass ⟨0,0,0,0⟩, "", [], [], [], f0⟩) ["value", "ruler"] := by
  intro kV doc pm an cdv ct us ws h1 h2
  have h1 : us.length = 0 := by have e : us.length + 2 = 2 := h1; omega
  have h2 : ws.length = 2 := h2
  match us, ws, h1, h2 with | [], [_, _], _, _ => exact ⟨_, rfl, (List.perm_middle (l₁ := [_])).trans (.cons _ (.refl _))⟩
theorem hB : BindsAll dfs := bindL_of ⟨⟨b0_0, trivial⟩, ⟨b1_0, b1_1, trivial⟩, ⟨b2_0, trivial⟩, ⟨b3_0, trivial⟩, ⟨b4_0, trivial⟩, ⟨b5_0, trivial⟩, ⟨b6_0, trivial⟩, ⟨b7_0, trivial⟩, ⟨b8_0, trivial⟩, ⟨b9_0, trivial⟩, ⟨b10_0, trivial⟩, ⟨b11_0, trivial⟩, ⟨b12_0, trivial⟩, ⟨b13_0, trivial⟩, ⟨b14_0, trivial⟩, ⟨b15_0, trivial⟩, ⟨b16_0, trivial⟩, ⟨b17_0, trivial⟩, ⟨b18_0, trivial⟩, ⟨b19_0, trivial⟩, ⟨b20_0, trivial⟩, ⟨b21_0, trivial⟩, ⟨b22_0, trivial⟩, ⟨b23_0, trivial⟩, ⟨b24_0, trivial⟩, trivial⟩
def loose0 : List PySem.Str := ["FoldError", "InvalidFolds", "InvalidRuler", "is_whole", "is_ruler", "check_ruler", "are_laid_ways_of", "are_laid_ways", "check_laid_ways", "joints_in", "case_in", "joints_of", "case_of", "_law_hash", "_law_random", "_law_cell", "_law_generator", "_law_pick", "_law_same", "_law_ruler", "_law_joints", "_law_needed", "_law_are_ways", "_law_right"]
def loose : List PySem.Str := loose0
abbrev RW0 : PySem.W.OpenLaw := PySem.Challenge.rw_foldhouse_k44_whole_ways_of_rulers
abbrev RR : PySem.W.OpenRow := PySem.W.OpenLaw.row RW0
abbrev hk : PySem.W.Hook := He.hookD 4 (faOf dfs gls) (fnOf dfs)
def ob (s : PySem.W.SharedT) : He.AlD := He.obsDG 4 (faOf dfs gls) (fnOf dfs) (HandSHeadRun.getT s)
theorem ob_eq (s : PySem.W.SharedT) : ob s = hk.obs s.abs := He.obsDG_eq (HandSHeadRun.getT_eq s)
theorem headRun (w : World) : HandSHeadRun.RunEq RR (PySem.W.view RR.prog [28]) hk ob 6000 loose w := by
  intro os
  kernel_rfl
theorem room : Room 40 callerA := ⟨rfl, by decide, by decide⟩
theorem whole (ans : Ans) : PySem.Challenge.rw_foldhouse_k44_whole_ways_of_rulers.Holds := by
  w_on; o_law
  refine HandSHeadRun.head_any (r := PySem.W.OpenLaw.row PySem.Challenge.rw_foldhouse_k44_whole_ways_of_rulers) (q := PySem.W.view RR.prog [28]) (H := hk) (ob := ob) (M := 6000) (loose := loose) (d := HandSHeadRun.topDef RR.prog 28) (kwd := []) ob_eq
    (by kernel_rfl) (fun s => by kernel_rfl) headRun (by kernel_rfl) (by kernel_rfl) (by kernel_rfl) (by rfl) (by first | assumption | decide +kernel) (by decide +kernel) ⟨rfl, rfl, rfl, rfl, rfl, by decide +kernel⟩ ?hw ?hc
  case hw => w_witness2
  case hc => exact law_walk (l := RW0) (m := 63) (n := 40) (wf := 1000000) (y := "script") (dfs := dfs) (gls := gls) (i := 21) rfl (by decide) (by kernel_rfl) room hB (by decide) all_ok rfl (by kernel_rfl) rfl rfl rfl (by decide) ans
end Law
end
section
set_option maxRecDepth 100000
set_option maxHeartbeats 4000000
namespace Law
open PySem L2 Fh
abbrev PP := progOf dfs
abbrev GG := globOf gls
/-! ### rulers -/
def isW : D → Bool
  | .int _ => true
  | _ => false
def posW : D → Bool
  | .int i => decide (0 < i)
  | _ => false
def isR : D → Bool
  | .list xs => !xs.isEmpty && xs.all posW
  | _ => false
theorem shps_mem {n : Nat} : ∀ {ds : List D}, shps n ds = true → ∀ d ∈ ds, shp n d = true
  | [], _, d, h => nomatch h
  | x :: xs, h, d, hd => by
    have h' : shp n x = true ∧ shps n xs = true := by simpa [shps] using h
    cases hd with
    | head => exact h'.1
    | tail _ hd => exact shps_mem h'.2 d hd
theorem shp_list {n : Nat} {xs : List D} (h : shps n xs = true) : shp (n + 1) (.list xs) = true := by simpa [shp] using h
theorem eqv_nil (xs : List D) : eqv (.list xs) (.list []) = xs.isEmpty := by cases xs <;> rfl
theorem beq_dec (a b : Int) : (a == b) = decide (a = b) := by by_cases h : a = b <;> simp [h]
/-- values that may be judged -/
def Ok1 (d : D) : Prop := d = .dict [] [] ∨ (shp 12 d = true ∧ ∀ xs, d = .list xs → xs.length ≤ SZ)
theorem Ok1.plain {d : D} (h : Ok1 d) : plainD d = true := by
  rcases h with rfl | h
  · rfl
  · exact shp_plain h.1
theorem Ok1.list {xs : List D} (h : Ok1 (.list xs)) : shps 11 xs = true ∧ xs.length ≤ SZ := by
  rcases h with h | h
  · cases h
  · exact ⟨by simpa [shp] using h.1, h.2 _ rfl⟩
section
variable {wf : Nat}
theorem is_whole (d : D) (h : plainD d = true) (n : Nat) : callD PP GG wf (n + 1) 0 [d] = .ok (.bool (isW d), none) := by
  refine callD_v (fd := f0) (ρ := [some d]) rfl rfl rfl rfl (.inr rfl) ?_
  rw [runs_aR]
  cases d <;> first | (cases h; done) | (simp -implicitDefEqProofs (disch := omega) only [f0, qm_cst, qm_var, qm_glo, m_kV, qm_prim, m_kPrim, qm_bop, qm_ife, m_kIfe, m_kIfeT, m_kIfeF, qm_lst, qm_tup, m_kLst, m_kTup, qm_dct, qm_chain, m_kCh1, m_kCh2, m_kCh3T, m_kCh3F, m_kCh4, qm_call, m_kCall, m_kRet, m_kRetX, qm_callio, m_kIo0, m_kIo1, m_kIo2L, m_kIo2I, m_kRio, m_callq', m_kQ1, m_kQ2, m_kQ3, m_callz', m_kZ1, m_kZ2b, m_kZ2i, m_evs0, m_evs1, m_kS1, m_kC, m_o0, m_ovar, m_kV1, m_kV2, m_kV3, m_ocst, m_oglo, m_oprim, m_obop, m_oife, m_olst, m_otup, m_odct, m_ochain, m_ocall, m_ocallio, m_ocallq, m_ocallz, m_ocomp, m_kO1, m_b1, m_b2, m_kB1, m_kBtt, m_kBff, m_kBtf, m_kBft, m_f0, m_f1, m_kF1, m_kF2t, m_kF2f, m_over, m_kOver, m_range, m_kRange, m_enum, m_kEnum, m_zip, m_kZip, m_zips, m_kZips, m_kXs, m_r0, m_r1, m_seqN, m_seqR, m_seqB, m_seqC, m_asg, m_kAsg, m_asgT, m_kAsgT, m_kEnv, m_par, m_kPar, m_setix, m_kSt1, m_kSt2, m_kSt3, m_kSt4, m_kPut, m_app, m_kAp1L, m_kAp1I, m_kAp2, m_kAp3, m_ins, m_kIn1L, m_kIn1I, m_kIn2, m_kIn3, m_kIn4, m_spoil, m_kSpo, m_exp, m_kExp, m_ite, m_kIte, m_kIttT, m_kIttF, m_for, m_kFor, m_ret, m_kRt, m_retv, m_kRv, m_pass, m_brk, m_cnt, m_turnN, m_turnC, m_turnR, m_turnB, m_some, m_eltT, m_eltF, getV_0, getV_s, set_0, set_s, truth_b, truth_i, truth_n, zipf_0, zipf_s, tg_1, tg_2, tg_3, wipe_0, wipe_s,
    isTyL, isTyI, isTy, pis_int, pis_bool, pis_non, pis_str, pis_list, pis_tup, pis_dict, p_add, p_sub, p_neg, p_lt, p_le, p_gt, p_ge, p_eqi, p_nei, p_eqb, p_neb, p_eqs, p_nes, p_notb, p_isN, p_isnN, p_len, p_lent, p_lenI, p_int, p_intb, p_bitlen, p_abs, p_max2, p_min2, p_rev, p_revI, p_tupof, p_listof, p_sumI, p_allb, p_anyb, p_idx0, p_idx1, p_idx2,
    items_L, items_I, rtv_rt, rtio_rt, rtio_nx, Bool.not_true, Bool.not_false, Bool.false_eq_true, Bool.true_eq_false, ↓reduceIte, if_true, if_false, beq_self_eq_true, bne_self_eq_false, decide_true, decide_false, isW])
theorem c1_0 (xs : List D) (v : Option D) (h : shps 11 xs = true) (hl : xs.length ≤ SZ) (n : Nat) : ev GG (callD PP GG wf (n + 1)) f1_c0 [some (.list xs), v] = .ok (.list ((xs.map posW).map D.bool), [some (.list xs), v]) := by
  unfold f1_c0
  refine (comp_pure _ _ _ _ _ _ [some (.list xs), v] xs (fun d => some (.bool (posW d))) rfl hl (fun d hd => ?_)).trans (by simp [List.filterMap_map, Function.comp_def])
  have hp := shp_plain (shps_mem h d hd)
  refine ⟨[some (.list xs), some d], rfl, ?_⟩
  rw [turnC_eq rfl]
  have hw := is_whole (wf := wf) d hp n
  cases d <;> first | (cases hp; done) | (simp only [isW] at hw; simp -implicitDefEqProofs (disch := omega) only [qm_cst, qm_var, qm_glo, m_kV, qm_prim, m_kPrim, qm_bop, qm_ife, m_kIfe, m_kIfeT, m_kIfeF, qm_lst, qm_tup, m_kLst, m_kTup, qm_dct, qm_chain, m_kCh1, m_kCh2, m_kCh3T, m_kCh3F, m_kCh4, qm_call, m_kCall, m_kRet, m_kRetX, qm_callio, m_kIo0, m_kIo1, m_kIo2L, m_kIo2I, m_kRio, m_callq', m_kQ1, m_kQ2, m_kQ3, m_callz', m_kZ1, m_kZ2b, m_kZ2i, m_evs0, m_evs1, m_kS1, m_kC, m_o0, m_ovar, m_kV1, m_kV2, m_kV3, m_ocst, m_oglo, m_oprim, m_obop, m_oife, m_olst, m_otup, m_odct, m_ochain, m_ocall, m_ocallio, m_ocallq, m_ocallz, m_ocomp, m_kO1, m_b1, m_b2, m_kB1, m_kBtt, m_kBff, m_kBtf, m_kBft, m_f0, m_f1, m_kF1, m_kF2t, m_kF2f, m_over, m_kOver, m_range, m_kRange, m_enum, m_kEnum, m_zip, m_kZip, m_zips, m_kZips, m_kXs, m_r0, m_r1, m_seqN, m_seqR, m_seqB, m_seqC, m_asg, m_kAsg, m_asgT, m_kAsgT, m_kEnv, m_par, m_kPar, m_setix, m_kSt1, m_kSt2, m_kSt3, m_kSt4, m_kPut, m_app, m_kAp1L, m_kAp1I, m_kAp2, m_kAp3, m_ins, m_kIn1L, m_kIn1I, m_kIn2, m_kIn3, m_kIn4, m_spoil, m_kSpo, m_exp, m_kExp, m_ite, m_kIte, m_kIttT, m_kIttF, m_for, m_kFor, m_ret, m_kRt, m_retv, m_kRv, m_pass, m_brk, m_cnt, m_turnN, m_turnC, m_turnR, m_turnB, m_some, m_eltT, m_eltF, getV_0, getV_s, set_0, set_s, truth_b, truth_i, truth_n, zipf_0, zipf_s, tg_1, tg_2, tg_3, wipe_0, wipe_s,
    isTyL, isTyI, isTy, pis_int, pis_bool, pis_non, pis_str, pis_list, pis_tup, pis_dict, p_add, p_sub, p_neg, p_lt, p_le, p_gt, p_ge, p_eqi, p_nei, p_eqb, p_neb, p_eqs, p_nes, p_notb, p_isN, p_isnN, p_len, p_lent, p_lenI, p_int, p_intb, p_bitlen, p_abs, p_max2, p_min2, p_rev, p_revI, p_tupof, p_listof, p_sumI, p_allb, p_anyb, p_idx0, p_idx1, p_idx2,
    items_L, items_I, rtv_rt, rtio_rt, rtio_nx, Bool.not_true, Bool.not_false, Bool.false_eq_true, Bool.true_eq_false, ↓reduceIte, if_true, if_false, beq_self_eq_true, bne_self_eq_false, decide_true, decide_false, hw, posW])
theorem is_ruler (d : D) (h : Ok1 d) (n : Nat) : callD PP GG wf (n + 2) 1 [d] = .ok (.bool (isR d), none) := by
  refine callD_v (fd := f1) (ρ := [some d, none]) rfl rfl rfl rfl (.inr rfl) ?_
  rw [runs_aR]
  have hp := h.plain
  cases d with
  | list xs =>
    obtain ⟨hs, hl⟩ := h.list
    have e1 : prim .ne [.list xs, .list []] = .ok (.bool (!xs.isEmpty)) := by rw [p_ne _ _ (shp_list hs) rfl, eqv_nil]
    cases he : xs.isEmpty with
    | true => rw [he] at e1; simp -implicitDefEqProofs (disch := omega) only [f1, qm_cst, qm_var, qm_glo, m_kV, qm_prim, m_kPrim, qm_bop, qm_ife, m_kIfe, m_kIfeT, m_kIfeF, qm_lst, qm_tup, m_kLst, m_kTup, qm_dct, qm_chain, m_kCh1, m_kCh2, m_kCh3T, m_kCh3F, m_kCh4, qm_call, m_kCall, m_kRet, m_kRetX, qm_callio, m_kIo0, m_kIo1, m_kIo2L, m_kIo2I, m_kRio, m_callq', m_kQ1, m_kQ2, m_kQ3, m_callz', m_kZ1, m_kZ2b, m_kZ2i, m_evs0, m_evs1, m_kS1, m_kC, m_o0, m_ovar, m_kV1, m_kV2, m_kV3, m_ocst, m_oglo, m_oprim, m_obop, m_oife, m_olst, m_otup, m_odct, m_ochain, m_ocall, m_ocallio, m_ocallq, m_ocallz, m_ocomp, m_kO1, m_b1, m_b2, m_kB1, m_kBtt, m_kBff, m_kBtf, m_kBft, m_f0, m_f1, m_kF1, m_kF2t, m_kF2f, m_over, m_kOver, m_range, m_kRange, m_enum, m_kEnum, m_zip, m_kZip, m_zips, m_kZips, m_kXs, m_r0, m_r1, m_seqN, m_seqR, m_seqB, m_seqC, m_asg, m_kAsg, m_asgT, m_kAsgT, m_kEnv, m_par, m_kPar, m_setix, m_kSt1, m_kSt2, m_kSt3, m_kSt4, m_kPut, m_app, m_kAp1L, m_kAp1I, m_kAp2, m_kAp3, m_ins, m_kIn1L, m_kIn1I, m_kIn2, m_kIn3, m_kIn4, m_spoil, m_kSpo, m_exp, m_kExp, m_ite, m_kIte, m_kIttT, m_kIttF, m_for, m_kFor, m_ret, m_kRt, m_retv, m_kRv, m_pass, m_brk, m_cnt, m_turnN, m_turnC, m_turnR, m_turnB, m_some, m_eltT, m_eltF, getV_0, getV_s, set_0, set_s, truth_b, truth_i, truth_n, zipf_0, zipf_s, tg_1, tg_2, tg_3, wipe_0, wipe_s,
    isTyL, isTyI, isTy, pis_int, pis_bool, pis_non, pis_str, pis_list, pis_tup, pis_dict, p_add, p_sub, p_neg, p_lt, p_le, p_gt, p_ge, p_eqi, p_nei, p_eqb, p_neb, p_eqs, p_nes, p_notb, p_isN, p_isnN, p_len, p_lent, p_lenI, p_int, p_intb, p_bitlen, p_abs, p_max2, p_min2, p_rev, p_revI, p_tupof, p_listof, p_sumI, p_allb, p_anyb, p_idx0, p_idx1, p_idx2,
    items_L, items_I, rtv_rt, rtio_rt, rtio_nx, Bool.not_true, Bool.not_false, Bool.false_eq_true, Bool.true_eq_false, ↓reduceIte, if_true, if_false, beq_self_eq_true, bne_self_eq_false, decide_true, decide_false, e1, he, isR, Bool.false_and]
    | false =>
      rw [he] at e1
      have e2 := c1_0 (wf := wf) xs none hs hl n
      have e3 : ((xs.map posW).all id) = xs.all posW := by simp [List.all_map, Function.comp_def]
      simp -implicitDefEqProofs (disch := omega) only [f1, qm_cst, qm_var, qm_glo, m_kV, qm_prim, m_kPrim, qm_bop, qm_ife, m_kIfe, m_kIfeT, m_kIfeF, qm_lst, qm_tup, m_kLst, m_kTup, qm_dct, qm_chain, m_kCh1, m_kCh2, m_kCh3T, m_kCh3F, m_kCh4, qm_call, m_kCall, m_kRet, m_kRetX, qm_callio, m_kIo0, m_kIo1, m_kIo2L, m_kIo2I, m_kRio, m_callq', m_kQ1, m_kQ2, m_kQ3, m_callz', m_kZ1, m_kZ2b, m_kZ2i, m_evs0, m_evs1, m_kS1, m_kC, m_o0, m_ovar, m_kV1, m_kV2, m_kV3, m_ocst, m_oglo, m_oprim, m_obop, m_oife, m_olst, m_otup, m_odct, m_ochain, m_ocall, m_ocallio, m_ocallq, m_ocallz, m_ocomp, m_kO1, m_b1, m_b2, m_kB1, m_kBtt, m_kBff, m_kBtf, m_kBft, m_f0, m_f1, m_kF1, m_kF2t, m_kF2f, m_over, m_kOver, m_range, m_kRange, m_enum, m_kEnum, m_zip, m_kZip, m_zips, m_kZips, m_kXs, m_r0, m_r1, m_seqN, m_seqR, m_seqB, m_seqC, m_asg, m_kAsg, m_asgT, m_kAsgT, m_kEnv, m_par, m_kPar, m_setix, m_kSt1, m_kSt2, m_kSt3, m_kSt4, m_kPut, m_app, m_kAp1L, m_kAp1I, m_kAp2, m_kAp3, m_ins, m_kIn1L, m_kIn1I, m_kIn2, m_kIn3, m_kIn4, m_spoil, m_kSpo, m_exp, m_kExp, m_ite, m_kIte, m_kIttT, m_kIttF, m_for, m_kFor, m_ret, m_kRt, m_retv, m_kRv, m_pass, m_brk, m_cnt, m_turnN, m_turnC, m_turnR, m_turnB, m_some, m_eltT, m_eltF, getV_0, getV_s, set_0, set_s, truth_b, truth_i, truth_n, zipf_0, zipf_s, tg_1, tg_2, tg_3, wipe_0, wipe_s,
    isTyL, isTyI, isTy, pis_int, pis_bool, pis_non, pis_str, pis_list, pis_tup, pis_dict, p_add, p_sub, p_neg, p_lt, p_le, p_gt, p_ge, p_eqi, p_nei, p_eqb, p_neb, p_eqs, p_nes, p_notb, p_isN, p_isnN, p_len, p_lent, p_lenI, p_int, p_intb, p_bitlen, p_abs, p_max2, p_min2, p_rev, p_revI, p_tupof, p_listof, p_sumI, p_allb, p_anyb, p_idx0, p_idx1, p_idx2,
    items_L, items_I, rtv_rt, rtio_rt, rtio_nx, Bool.not_true, Bool.not_false, Bool.false_eq_true, Bool.true_eq_false, ↓reduceIte, if_true, if_false, beq_self_eq_true, bne_self_eq_false, decide_true, decide_false, e1, f1_c0_ops, aE_of e2, e3, isR, he, Bool.true_and]
  | _ => first | (cases hp; done) | (simp -implicitDefEqProofs (disch := omega) only [f1, qm_cst, qm_var, qm_glo, m_kV, qm_prim, m_kPrim, qm_bop, qm_ife, m_kIfe, m_kIfeT, m_kIfeF, qm_lst, qm_tup, m_kLst, m_kTup, qm_dct, qm_chain, m_kCh1, m_kCh2, m_kCh3T, m_kCh3F, m_kCh4, qm_call, m_kCall, m_kRet, m_kRetX, qm_callio, m_kIo0, m_kIo1, m_kIo2L, m_kIo2I, m_kRio, m_callq', m_kQ1, m_kQ2, m_kQ3, m_callz', m_kZ1, m_kZ2b, m_kZ2i, m_evs0, m_evs1, m_kS1, m_kC, m_o0, m_ovar, m_kV1, m_kV2, m_kV3, m_ocst, m_oglo, m_oprim, m_obop, m_oife, m_olst, m_otup, m_odct, m_ochain, m_ocall, m_ocallio, m_ocallq, m_ocallz, m_ocomp, m_kO1, m_b1, m_b2, m_kB1, m_kBtt, m_kBff, m_kBtf, m_kBft, m_f0, m_f1, m_kF1, m_kF2t, m_kF2f, m_over, m_kOver, m_range, m_kRange, m_enum, m_kEnum, m_zip, m_kZip, m_zips, m_kZips, m_kXs, m_r0, m_r1, m_seqN, m_seqR, m_seqB, m_seqC, m_asg, m_kAsg, m_asgT, m_kAsgT, m_kEnv, m_par, m_kPar, m_setix, m_kSt1, m_kSt2, m_kSt3, m_kSt4, m_kPut, m_app, m_kAp1L, m_kAp1I, m_kAp2, m_kAp3, m_ins, m_kIn1L, m_kIn1I, m_kIn2, m_kIn3, m_kIn4, m_spoil, m_kSpo, m_exp, m_kExp, m_ite, m_kIte, m_kIttT, m_kIttF, m_for, m_kFor, m_ret, m_kRt, m_retv, m_kRv, m_pass, m_brk, m_cnt, m_turnN, m_turnC, m_turnR, m_turnB, m_some, m_eltT, m_eltF, getV_0, getV_s, set_0, set_s, truth_b, truth_i, truth_n, zipf_0, zipf_s, tg_1, tg_2, tg_3, wipe_0, wipe_s,
    isTyL, isTyI, isTy, pis_int, pis_bool, pis_non, pis_str, pis_list, pis_tup, pis_dict, p_add, p_sub, p_neg, p_lt, p_le, p_gt, p_ge, p_eqi, p_nei, p_eqb, p_neb, p_eqs, p_nes, p_notb, p_isN, p_isnN, p_len, p_lent, p_lenI, p_int, p_intb, p_bitlen, p_abs, p_max2, p_min2, p_rev, p_revI, p_tupof, p_listof, p_sumI, p_allb, p_anyb, p_idx0, p_idx1, p_idx2,
    items_L, items_I, rtv_rt, rtio_rt, rtio_nx, Bool.not_true, Bool.not_false, Bool.false_eq_true, Bool.true_eq_false, ↓reduceIte, if_true, if_false, beq_self_eq_true, bne_self_eq_false, decide_true, decide_false, isR])
/-- a list of links that is a ruler -/
def Rul (rs : List Int) : Prop := rs ≠ [] ∧ (∀ x ∈ rs, 1 ≤ x ∧ x ≤ 60) ∧ rs.length ≤ 8
theorem Rul.isR {rs : List Int} (h : Rul rs) : isR (dI rs) = true := by
  have h1 : (rs.map D.int).isEmpty = false := by
    cases rs with
    | nil => exact absurd rfl h.1
    | cons => rfl
  show (!(rs.map D.int).isEmpty && (rs.map D.int).all posW) = true
  rw [h1, List.all_map]
  simp only [Bool.not_false, Bool.true_and, List.all_eq_true]
  intro x hx
  have := h.2.1 x hx
  exact decide_eq_true (by omega)
theorem Rul.ok {rs : List Int} (h : Rul rs) : Ok1 (dI rs) := by
  refine .inr ⟨shp_I 11 rs, ?_⟩
  intro ys e
  cases e
  have := h.2.2
  show _ ≤ 16777216
  simp; omega
theorem Rul.len {rs : List Int} (h : Rul rs) : 1 ≤ rs.length ∧ rs.length ≤ 8 := by
  have : rs.length ≠ 0 := fun e => h.1 (List.length_eq_zero_iff.mp e)
  have := h.2.2
  omega
theorem check_ruler {rs : List Int} (h : Rul rs) (n : Nat) : callD PP GG wf (n + 3) 2 [dI rs] = .ok (.non, none) := by
  have e := is_ruler (wf := wf) (dI rs) h.ok n
  rw [h.isR] at e
  refine callD_u (fd := f2) (ρ := [some (dI rs)]) (ρ' := [some (dI rs)]) rfl rfl rfl rfl ?_
  rw [runs_id]
  simp -implicitDefEqProofs (disch := omega) only [f2, qm_cst, qm_var, qm_glo, m_kV, qm_prim, m_kPrim, qm_bop, qm_ife, m_kIfe, m_kIfeT, m_kIfeF, qm_lst, qm_tup, m_kLst, m_kTup, qm_dct, qm_chain, m_kCh1, m_kCh2, m_kCh3T, m_kCh3F, m_kCh4, qm_call, m_kCall, m_kRet, m_kRetX, qm_callio, m_kIo0, m_kIo1, m_kIo2L, m_kIo2I, m_kRio, m_callq', m_kQ1, m_kQ2, m_kQ3, m_callz', m_kZ1, m_kZ2b, m_kZ2i, m_evs0, m_evs1, m_kS1, m_kC, m_o0, m_ovar, m_kV1, m_kV2, m_kV3, m_ocst, m_oglo, m_oprim, m_obop, m_oife, m_olst, m_otup, m_odct, m_ochain, m_ocall, m_ocallio, m_ocallq, m_ocallz, m_ocomp, m_kO1, m_b1, m_b2, m_kB1, m_kBtt, m_kBff, m_kBtf, m_kBft, m_f0, m_f1, m_kF1, m_kF2t, m_kF2f, m_over, m_kOver, m_range, m_kRange, m_enum, m_kEnum, m_zip, m_kZip, m_zips, m_kZips, m_kXs, m_r0, m_r1, m_seqN, m_seqR, m_seqB, m_seqC, m_asg, m_kAsg, m_asgT, m_kAsgT, m_kEnv, m_par, m_kPar, m_setix, m_kSt1, m_kSt2, m_kSt3, m_kSt4, m_kPut, m_app, m_kAp1L, m_kAp1I, m_kAp2, m_kAp3, m_ins, m_kIn1L, m_kIn1I, m_kIn2, m_kIn3, m_kIn4, m_spoil, m_kSpo, m_exp, m_kExp, m_ite, m_kIte, m_kIttT, m_kIttF, m_for, m_kFor, m_ret, m_kRt, m_retv, m_kRv, m_pass, m_brk, m_cnt, m_turnN, m_turnC, m_turnR, m_turnB, m_some, m_eltT, m_eltF, getV_0, getV_s, set_0, set_s, truth_b, truth_i, truth_n, zipf_0, zipf_s, tg_1, tg_2, tg_3, wipe_0, wipe_s,
    isTyL, isTyI, isTy, pis_int, pis_bool, pis_non, pis_str, pis_list, pis_tup, pis_dict, p_add, p_sub, p_neg, p_lt, p_le, p_gt, p_ge, p_eqi, p_nei, p_eqb, p_neb, p_eqs, p_nes, p_notb, p_isN, p_isnN, p_len, p_lent, p_lenI, p_int, p_intb, p_bitlen, p_abs, p_max2, p_min2, p_rev, p_revI, p_tupof, p_listof, p_sumI, p_allb, p_anyb, p_idx0, p_idx1, p_idx2,
    items_L, items_I, rtv_rt, rtio_rt, rtio_nx, Bool.not_true, Bool.not_false, Bool.false_eq_true, Bool.true_eq_false, ↓reduceIte, if_true, if_false, beq_self_eq_true, bne_self_eq_false, decide_true, decide_false, e, id]
/-! ### ways -/
def way (b : Bool) : D := .str (if b then cs [114] else cs [108])
def dW (bs : List Bool) : D := .list (bs.map way)
def isWay : D → Bool
  | .str s => s == cs [108] || s == cs [114]
  | _ => false
def isLW (n : Nat) : D → Bool
  | .list xs => decide (xs.length = n) && (xs.all isWay && (match xs with | .str s :: _ => s == cs [114] | _ => false))
  | _ => false
theorem in_T (x : D) (h : shp 12 x = true) : prim .isin [x, .tup [.str (cs [108]), .str (cs [114])]] = .ok (.bool (isWay x)) := by
  show scOk .isin (if shp 12 x && shp 12 (.tup [.str (cs [108]), .str (cs [114])]) then _ else _) = _
  rw [h]
  cases x with
  | str s =>
    have e1 : (cs [108] == s) = (s == cs [108]) := BEq.comm
    have e2 : (cs [114] == s) = (s == cs [114]) := BEq.comm
    show R.ok (D.bool ((cs [108] == s) || ((cs [114] == s) || false))) = R.ok (D.bool (s == cs [108] || s == cs [114]))
    rw [Bool.or_false, e1, e2]
  | _ => first | rfl | (simp [shp] at h; done)
end
end Law
end
section
set_option maxRecDepth 100000
set_option maxHeartbeats 4000000
namespace Law
open PySem L2 Fh
theorem notin_L (x : D) (h : shp 12 x = true) : prim .notin [x, .list [.str (cs [108]), .str (cs [114])]] = .ok (.bool (!isWay x)) := by
  show scOk .notin ((if shp 12 x && shp 12 (.list [.str (cs [108]), .str (cs [114])]) then _ else _ : R D).bind pNot) = _
  rw [h]
  cases x with
  | str s =>
    have e1 : (cs [108] == s) = (s == cs [108]) := BEq.comm
    have e2 : (cs [114] == s) = (s == cs [114]) := BEq.comm
    show R.ok (D.bool (!((cs [108] == s) || ((cs [114] == s) || false)))) = R.ok (D.bool (!(s == cs [108] || s == cs [114])))
    rw [Bool.or_false, e1, e2]
  | _ => first | rfl | (simp [shp] at h; done)
section
variable {wf : Nat}
theorem c3_0 (r0 : Option D) (xs : List D) (v : Option D) (h : shps 11 xs = true) (hl : xs.length ≤ SZ) (c : Fh.Callee) : ev GG c f3_c0 [r0, some (.list xs), v] = .ok (.list ((xs.map isWay).map D.bool), [r0, some (.list xs), v]) := by
  unfold f3_c0
  refine (comp_pure _ _ _ _ _ _ [r0, some (.list xs), v] xs (fun d => some (.bool (isWay d))) rfl hl (fun d hd => ?_)).trans (by simp [List.filterMap_map, Function.comp_def])
  have hs := shps_mem h d hd
  have hp := shp_plain hs
  have hi := in_T d (shp_mono (by decide) hs)
  refine ⟨[r0, some (.list xs), some d], rfl, ?_⟩
  rw [turnC_eq rfl]
  cases d <;> first | (cases hp; done) | (simp -implicitDefEqProofs (disch := omega) only [qm_cst, qm_var, qm_glo, m_kV, qm_prim, m_kPrim, qm_bop, qm_ife, m_kIfe, m_kIfeT, m_kIfeF, qm_lst, qm_tup, m_kLst, m_kTup, qm_dct, qm_chain, m_kCh1, m_kCh2, m_kCh3T, m_kCh3F, m_kCh4, qm_call, m_kCall, m_kRet, m_kRetX, qm_callio, m_kIo0, m_kIo1, m_kIo2L, m_kIo2I, m_kRio, m_callq', m_kQ1, m_kQ2, m_kQ3, m_callz', m_kZ1, m_kZ2b, m_kZ2i, m_evs0, m_evs1, m_kS1, m_kC, m_o0, m_ovar, m_kV1, m_kV2, m_kV3, m_ocst, m_oglo, m_oprim, m_obop, m_oife, m_olst, m_otup, m_odct, m_ochain, m_ocall, m_ocallio, m_ocallq, m_ocallz, m_ocomp, m_kO1, m_b1, m_b2, m_kB1, m_kBtt, m_kBff, m_kBtf, m_kBft, m_f0, m_f1, m_kF1, m_kF2t, m_kF2f, m_over, m_kOver, m_range, m_kRange, m_enum, m_kEnum, m_zip, m_kZip, m_zips, m_kZips, m_kXs, m_r0, m_r1, m_seqN, m_seqR, m_seqB, m_seqC, m_asg, m_kAsg, m_asgT, m_kAsgT, m_kEnv, m_par, m_kPar, m_setix, m_kSt1, m_kSt2, m_kSt3, m_kSt4, m_kPut, m_app, m_kAp1L, m_kAp1I, m_kAp2, m_kAp3, m_ins, m_kIn1L, m_kIn1I, m_kIn2, m_kIn3, m_kIn4, m_spoil, m_kSpo, m_exp, m_kExp, m_ite, m_kIte, m_kIttT, m_kIttF, m_for, m_kFor, m_ret, m_kRt, m_retv, m_kRv, m_pass, m_brk, m_cnt, m_turnN, m_turnC, m_turnR, m_turnB, m_some, m_eltT, m_eltF, getV_0, getV_s, set_0, set_s, truth_b, truth_i, truth_n, zipf_0, zipf_s, tg_1, tg_2, tg_3, wipe_0, wipe_s,
    isTyL, isTyI, isTy, pis_int, pis_bool, pis_non, pis_str, pis_list, pis_tup, pis_dict, p_add, p_sub, p_neg, p_lt, p_le, p_gt, p_ge, p_eqi, p_nei, p_eqb, p_neb, p_eqs, p_nes, p_notb, p_isN, p_isnN, p_len, p_lent, p_lenI, p_int, p_intb, p_bitlen, p_abs, p_max2, p_min2, p_rev, p_revI, p_tupof, p_listof, p_sumI, p_allb, p_anyb, p_idx0, p_idx1, p_idx2,
    items_L, items_I, rtv_rt, rtio_rt, rtio_nx, Bool.not_true, Bool.not_false, Bool.false_eq_true, Bool.true_eq_false, ↓reduceIte, if_true, if_false, beq_self_eq_true, bne_self_eq_false, decide_true, decide_false, hi, isWay])
theorem head_way {x : D} {t : List D} (h : (x :: t).all isWay = true) : ∃ s, x = .str s := by
  simp only [List.all_cons, Bool.and_eq_true] at h
  cases x <;> first | exact ⟨_, rfl⟩ | (simp [isWay] at h; done)
theorem len_eq (a b : Nat) : ((a : Int) == (b : Int)) = decide (a = b) := by
  rw [beq_dec]
  by_cases h : a = b
  · rw [decide_eq_true h, decide_eq_true (by omega)]
  · rw [decide_eq_false h, decide_eq_false (by omega)]
theorem laid_of {rs : List Int} (hr : Rul rs) (d : D) (h : Ok1 d) (n : Nat) : callD PP GG wf (n + 1) 3 [dI rs, d] = .ok (.bool (isLW rs.length d), none) := by
  refine callD_v (fd := f3) (ρ := [some (dI rs), some d, none]) rfl rfl rfl rfl (.inr rfl) ?_
  rw [runs_aR]
  have hp := h.plain
  have hrl := hr.len
  cases d with
  | list xs =>
    obtain ⟨hs, hl⟩ := h.list
    have q := len_eq xs.length rs.length
    by_cases hx : xs.length = rs.length
    · rw [decide_eq_true hx] at q
      have e2 := c3_0 (some (dI rs)) xs none hs hl (callD PP GG wf n)
      have e3 : ((xs.map isWay).all id) = xs.all isWay := by simp [List.all_map, Function.comp_def]
      cases ha : xs.all isWay with
      | false => simp -implicitDefEqProofs (disch := omega) only [f3, qm_cst, qm_var, qm_glo, m_kV, qm_prim, m_kPrim, qm_bop, qm_ife, m_kIfe, m_kIfeT, m_kIfeF, qm_lst, qm_tup, m_kLst, m_kTup, qm_dct, qm_chain, m_kCh1, m_kCh2, m_kCh3T, m_kCh3F, m_kCh4, qm_call, m_kCall, m_kRet, m_kRetX, qm_callio, m_kIo0, m_kIo1, m_kIo2L, m_kIo2I, m_kRio, m_callq', m_kQ1, m_kQ2, m_kQ3, m_callz', m_kZ1, m_kZ2b, m_kZ2i, m_evs0, m_evs1, m_kS1, m_kC, m_o0, m_ovar, m_kV1, m_kV2, m_kV3, m_ocst, m_oglo, m_oprim, m_obop, m_oife, m_olst, m_otup, m_odct, m_ochain, m_ocall, m_ocallio, m_ocallq, m_ocallz, m_ocomp, m_kO1, m_b1, m_b2, m_kB1, m_kBtt, m_kBff, m_kBtf, m_kBft, m_f0, m_f1, m_kF1, m_kF2t, m_kF2f, m_over, m_kOver, m_range, m_kRange, m_enum, m_kEnum, m_zip, m_kZip, m_zips, m_kZips, m_kXs, m_r0, m_r1, m_seqN, m_seqR, m_seqB, m_seqC, m_asg, m_kAsg, m_asgT, m_kAsgT, m_kEnv, m_par, m_kPar, m_setix, m_kSt1, m_kSt2, m_kSt3, m_kSt4, m_kPut, m_app, m_kAp1L, m_kAp1I, m_kAp2, m_kAp3, m_ins, m_kIn1L, m_kIn1I, m_kIn2, m_kIn3, m_kIn4, m_spoil, m_kSpo, m_exp, m_kExp, m_ite, m_kIte, m_kIttT, m_kIttF, m_for, m_kFor, m_ret, m_kRt, m_retv, m_kRv, m_pass, m_brk, m_cnt, m_turnN, m_turnC, m_turnR, m_turnB, m_some, m_eltT, m_eltF, getV_0, getV_s, set_0, set_s, truth_b, truth_i, truth_n, zipf_0, zipf_s, tg_1, tg_2, tg_3, wipe_0, wipe_s,
    isTyL, isTyI, isTy, pis_int, pis_bool, pis_non, pis_str, pis_list, pis_tup, pis_dict, p_add, p_sub, p_neg, p_lt, p_le, p_gt, p_ge, p_eqi, p_nei, p_eqb, p_neb, p_eqs, p_nes, p_notb, p_isN, p_isnN, p_len, p_lent, p_lenI, p_int, p_intb, p_bitlen, p_abs, p_max2, p_min2, p_rev, p_revI, p_tupof, p_listof, p_sumI, p_allb, p_anyb, p_idx0, p_idx1, p_idx2,
    items_L, items_I, rtv_rt, rtio_rt, rtio_nx, Bool.not_true, Bool.not_false, Bool.false_eq_true, Bool.true_eq_false, ↓reduceIte, if_true, if_false, beq_self_eq_true, bne_self_eq_false, decide_true, decide_false, q, f3_c0_ops, aE_of e2, e3, ha, isLW, hx, Bool.false_and, Bool.and_false]
      | true =>
        match xs, hx with
        | [], hx => simp at hx; omega
        | x :: t, hx =>
          obtain ⟨s, rfl⟩ := head_way ha
          simp -implicitDefEqProofs (disch := omega) only [f3, qm_cst, qm_var, qm_glo, m_kV, qm_prim, m_kPrim, qm_bop, qm_ife, m_kIfe, m_kIfeT, m_kIfeF, qm_lst, qm_tup, m_kLst, m_kTup, qm_dct, qm_chain, m_kCh1, m_kCh2, m_kCh3T, m_kCh3F, m_kCh4, qm_call, m_kCall, m_kRet, m_kRetX, qm_callio, m_kIo0, m_kIo1, m_kIo2L, m_kIo2I, m_kRio, m_callq', m_kQ1, m_kQ2, m_kQ3, m_callz', m_kZ1, m_kZ2b, m_kZ2i, m_evs0, m_evs1, m_kS1, m_kC, m_o0, m_ovar, m_kV1, m_kV2, m_kV3, m_ocst, m_oglo, m_oprim, m_obop, m_oife, m_olst, m_otup, m_odct, m_ochain, m_ocall, m_ocallio, m_ocallq, m_ocallz, m_ocomp, m_kO1, m_b1, m_b2, m_kB1, m_kBtt, m_kBff, m_kBtf, m_kBft, m_f0, m_f1, m_kF1, m_kF2t, m_kF2f, m_over, m_kOver, m_range, m_kRange, m_enum, m_kEnum, m_zip, m_kZip, m_zips, m_kZips, m_kXs, m_r0, m_r1, m_seqN, m_seqR, m_seqB, m_seqC, m_asg, m_kAsg, m_asgT, m_kAsgT, m_kEnv, m_par, m_kPar, m_setix, m_kSt1, m_kSt2, m_kSt3, m_kSt4, m_kPut, m_app, m_kAp1L, m_kAp1I, m_kAp2, m_kAp3, m_ins, m_kIn1L, m_kIn1I, m_kIn2, m_kIn3, m_kIn4, m_spoil, m_kSpo, m_exp, m_kExp, m_ite, m_kIte, m_kIttT, m_kIttF, m_for, m_kFor, m_ret, m_kRt, m_retv, m_kRv, m_pass, m_brk, m_cnt, m_turnN, m_turnC, m_turnR, m_turnB, m_some, m_eltT, m_eltF, getV_0, getV_s, set_0, set_s, truth_b, truth_i, truth_n, zipf_0, zipf_s, tg_1, tg_2, tg_3, wipe_0, wipe_s,
    isTyL, isTyI, isTy, pis_int, pis_bool, pis_non, pis_str, pis_list, pis_tup, pis_dict, p_add, p_sub, p_neg, p_lt, p_le, p_gt, p_ge, p_eqi, p_nei, p_eqb, p_neb, p_eqs, p_nes, p_notb, p_isN, p_isnN, p_len, p_lent, p_lenI, p_int, p_intb, p_bitlen, p_abs, p_max2, p_min2, p_rev, p_revI, p_tupof, p_listof, p_sumI, p_allb, p_anyb, p_idx0, p_idx1, p_idx2,
    items_L, items_I, rtv_rt, rtio_rt, rtio_nx, Bool.not_true, Bool.not_false, Bool.false_eq_true, Bool.true_eq_false, ↓reduceIte, if_true, if_false, beq_self_eq_true, bne_self_eq_false, decide_true, decide_false, q, f3_c0_ops, aE_of e2, e3, ha, isLW, hx, Bool.true_and]
    · rw [decide_eq_false hx] at q
      simp -implicitDefEqProofs (disch := omega) only [f3, qm_cst, qm_var, qm_glo, m_kV, qm_prim, m_kPrim, qm_bop, qm_ife, m_kIfe, m_kIfeT, m_kIfeF, qm_lst, qm_tup, m_kLst, m_kTup, qm_dct, qm_chain, m_kCh1, m_kCh2, m_kCh3T, m_kCh3F, m_kCh4, qm_call, m_kCall, m_kRet, m_kRetX, qm_callio, m_kIo0, m_kIo1, m_kIo2L, m_kIo2I, m_kRio, m_callq', m_kQ1, m_kQ2, m_kQ3, m_callz', m_kZ1, m_kZ2b, m_kZ2i, m_evs0, m_evs1, m_kS1, m_kC, m_o0, m_ovar, m_kV1, m_kV2, m_kV3, m_ocst, m_oglo, m_oprim, m_obop, m_oife, m_olst, m_otup, m_odct, m_ochain, m_ocall, m_ocallio, m_ocallq, m_ocallz, m_ocomp, m_kO1, m_b1, m_b2, m_kB1, m_kBtt, m_kBff, m_kBtf, m_kBft, m_f0, m_f1, m_kF1, m_kF2t, m_kF2f, m_over, m_kOver, m_range, m_kRange, m_enum, m_kEnum, m_zip, m_kZip, m_zips, m_kZips, m_kXs, m_r0, m_r1, m_seqN, m_seqR, m_seqB, m_seqC, m_asg, m_kAsg, m_asgT, m_kAsgT, m_kEnv, m_par, m_kPar, m_setix, m_kSt1, m_kSt2, m_kSt3, m_kSt4, m_kPut, m_app, m_kAp1L, m_kAp1I, m_kAp2, m_kAp3, m_ins, m_kIn1L, m_kIn1I, m_kIn2, m_kIn3, m_kIn4, m_spoil, m_kSpo, m_exp, m_kExp, m_ite, m_kIte, m_kIttT, m_kIttF, m_for, m_kFor, m_ret, m_kRt, m_retv, m_kRv, m_pass, m_brk, m_cnt, m_turnN, m_turnC, m_turnR, m_turnB, m_some, m_eltT, m_eltF, getV_0, getV_s, set_0, set_s, truth_b, truth_i, truth_n, zipf_0, zipf_s, tg_1, tg_2, tg_3, wipe_0, wipe_s,
    isTyL, isTyI, isTy, pis_int, pis_bool, pis_non, pis_str, pis_list, pis_tup, pis_dict, p_add, p_sub, p_neg, p_lt, p_le, p_gt, p_ge, p_eqi, p_nei, p_eqb, p_neb, p_eqs, p_nes, p_notb, p_isN, p_isnN, p_len, p_lent, p_lenI, p_int, p_intb, p_bitlen, p_abs, p_max2, p_min2, p_rev, p_revI, p_tupof, p_listof, p_sumI, p_allb, p_anyb, p_idx0, p_idx1, p_idx2,
    items_L, items_I, rtv_rt, rtio_rt, rtio_nx, Bool.not_true, Bool.not_false, Bool.false_eq_true, Bool.true_eq_false, ↓reduceIte, if_true, if_false, beq_self_eq_true, bne_self_eq_false, decide_true, decide_false, q, isLW, hx, Bool.false_and]
  | _ => first | (cases hp; done) | (simp -implicitDefEqProofs (disch := omega) only [f3, qm_cst, qm_var, qm_glo, m_kV, qm_prim, m_kPrim, qm_bop, qm_ife, m_kIfe, m_kIfeT, m_kIfeF, qm_lst, qm_tup, m_kLst, m_kTup, qm_dct, qm_chain, m_kCh1, m_kCh2, m_kCh3T, m_kCh3F, m_kCh4, qm_call, m_kCall, m_kRet, m_kRetX, qm_callio, m_kIo0, m_kIo1, m_kIo2L, m_kIo2I, m_kRio, m_callq', m_kQ1, m_kQ2, m_kQ3, m_callz', m_kZ1, m_kZ2b, m_kZ2i, m_evs0, m_evs1, m_kS1, m_kC, m_o0, m_ovar, m_kV1, m_kV2, m_kV3, m_ocst, m_oglo, m_oprim, m_obop, m_oife, m_olst, m_otup, m_odct, m_ochain, m_ocall, m_ocallio, m_ocallq, m_ocallz, m_ocomp, m_kO1, m_b1, m_b2, m_kB1, m_kBtt, m_kBff, m_kBtf, m_kBft, m_f0, m_f1, m_kF1, m_kF2t, m_kF2f, m_over, m_kOver, m_range, m_kRange, m_enum, m_kEnum, m_zip, m_kZip, m_zips, m_kZips, m_kXs, m_r0, m_r1, m_seqN, m_seqR, m_seqB, m_seqC, m_asg, m_kAsg, m_asgT, m_kAsgT, m_kEnv, m_par, m_kPar, m_setix, m_kSt1, m_kSt2, m_kSt3, m_kSt4, m_kPut, m_app, m_kAp1L, m_kAp1I, m_kAp2, m_kAp3, m_ins, m_kIn1L, m_kIn1I, m_kIn2, m_kIn3, m_kIn4, m_spoil, m_kSpo, m_exp, m_kExp, m_ite, m_kIte, m_kIttT, m_kIttF, m_for, m_kFor, m_ret, m_kRt, m_retv, m_kRv, m_pass, m_brk, m_cnt, m_turnN, m_turnC, m_turnR, m_turnB, m_some, m_eltT, m_eltF, getV_0, getV_s, set_0, set_s, truth_b, truth_i, truth_n, zipf_0, zipf_s, tg_1, tg_2, tg_3, wipe_0, wipe_s,
    isTyL, isTyI, isTy, pis_int, pis_bool, pis_non, pis_str, pis_list, pis_tup, pis_dict, p_add, p_sub, p_neg, p_lt, p_le, p_gt, p_ge, p_eqi, p_nei, p_eqb, p_neb, p_eqs, p_nes, p_notb, p_isN, p_isnN, p_len, p_lent, p_lenI, p_int, p_intb, p_bitlen, p_abs, p_max2, p_min2, p_rev, p_revI, p_tupof, p_listof, p_sumI, p_allb, p_anyb, p_idx0, p_idx1, p_idx2,
    items_L, items_I, rtv_rt, rtio_rt, rtio_nx, Bool.not_true, Bool.not_false, Bool.false_eq_true, Bool.true_eq_false, ↓reduceIte, if_true, if_false, beq_self_eq_true, bne_self_eq_false, decide_true, decide_false, isLW])
theorem c19_0 (r0 : Option D) (xs : List D) (v : Option D) (h : shps 11 xs = true) (hl : xs.length ≤ SZ) (c : Fh.Callee) : ev GG c f19_c0 [r0, some (.list xs), v] = .ok (.list (xs.filter fun d => !isWay d), [r0, some (.list xs), v]) := by
  unfold f19_c0
  refine (comp_pure _ _ _ _ _ _ [r0, some (.list xs), v] xs (fun d => if isWay d then none else some d) rfl hl (fun d hd => ?_)).trans ?_
  · have hs := shps_mem h d hd
    have hp := shp_plain hs
    have hi := notin_L d (shp_mono (by decide) hs)
    refine ⟨[r0, some (.list xs), some d], rfl, ?_⟩
    rw [turnC_eq rfl]
    cases d with
    | str s =>
      cases hw : isWay (.str s) with
      | true => rw [hw] at hi; simp -implicitDefEqProofs (disch := omega) only [qm_cst, qm_var, qm_glo, m_kV, qm_prim, m_kPrim, qm_bop, qm_ife, m_kIfe, m_kIfeT, m_kIfeF, qm_lst, qm_tup, m_kLst, m_kTup, qm_dct, qm_chain, m_kCh1, m_kCh2, m_kCh3T, m_kCh3F, m_kCh4, qm_call, m_kCall, m_kRet, m_kRetX, qm_callio, m_kIo0, m_kIo1, m_kIo2L, m_kIo2I, m_kRio, m_callq', m_kQ1, m_kQ2, m_kQ3, m_callz', m_kZ1, m_kZ2b, m_kZ2i, m_evs0, m_evs1, m_kS1, m_kC, m_o0, m_ovar, m_kV1, m_kV2, m_kV3, m_ocst, m_oglo, m_oprim, m_obop, m_oife, m_olst, m_otup, m_odct, m_ochain, m_ocall, m_ocallio, m_ocallq, m_ocallz, m_ocomp, m_kO1, m_b1, m_b2, m_kB1, m_kBtt, m_kBff, m_kBtf, m_kBft, m_f0, m_f1, m_kF1, m_kF2t, m_kF2f, m_over, m_kOver, m_range, m_kRange, m_enum, m_kEnum, m_zip, m_kZip, m_zips, m_kZips, m_kXs, m_r0, m_r1, m_seqN, m_seqR, m_seqB, m_seqC, m_asg, m_kAsg, m_asgT, m_kAsgT, m_kEnv, m_par, m_kPar, m_setix, m_kSt1, m_kSt2, m_kSt3, m_kSt4, m_kPut, m_app, m_kAp1L, m_kAp1I, m_kAp2, m_kAp3, m_ins, m_kIn1L, m_kIn1I, m_kIn2, m_kIn3, m_kIn4, m_spoil, m_kSpo, m_exp, m_kExp, m_ite, m_kIte, m_kIttT, m_kIttF, m_for, m_kFor, m_ret, m_kRt, m_retv, m_kRv, m_pass, m_brk, m_cnt, m_turnN, m_turnC, m_turnR, m_turnB, m_some, m_eltT, m_eltF, getV_0, getV_s, set_0, set_s, truth_b, truth_i, truth_n, zipf_0, zipf_s, tg_1, tg_2, tg_3, wipe_0, wipe_s,
    isTyL, isTyI, isTy, pis_int, pis_bool, pis_non, pis_str, pis_list, pis_tup, pis_dict, p_add, p_sub, p_neg, p_lt, p_le, p_gt, p_ge, p_eqi, p_nei, p_eqb, p_neb, p_eqs, p_nes, p_notb, p_isN, p_isnN, p_len, p_lent, p_lenI, p_int, p_intb, p_bitlen, p_abs, p_max2, p_min2, p_rev, p_revI, p_tupof, p_listof, p_sumI, p_allb, p_anyb, p_idx0, p_idx1, p_idx2,
    items_L, items_I, rtv_rt, rtio_rt, rtio_nx, Bool.not_true, Bool.not_false, Bool.false_eq_true, Bool.true_eq_false, ↓reduceIte, if_true, if_false, beq_self_eq_true, bne_self_eq_false, decide_true, decide_false, hi, hw]
      | false => rw [hw] at hi; simp -implicitDefEqProofs (disch := omega) only [qm_cst, qm_var, qm_glo, m_kV, qm_prim, m_kPrim, qm_bop, qm_ife, m_kIfe, m_kIfeT, m_kIfeF, qm_lst, qm_tup, m_kLst, m_kTup, qm_dct, qm_chain, m_kCh1, m_kCh2, m_kCh3T, m_kCh3F, m_kCh4, qm_call, m_kCall, m_kRet, m_kRetX, qm_callio, m_kIo0, m_kIo1, m_kIo2L, m_kIo2I, m_kRio, m_callq', m_kQ1, m_kQ2, m_kQ3, m_callz', m_kZ1, m_kZ2b, m_kZ2i, m_evs0, m_evs1, m_kS1, m_kC, m_o0, m_ovar, m_kV1, m_kV2, m_kV3, m_ocst, m_oglo, m_oprim, m_obop, m_oife, m_olst, m_otup, m_odct, m_ochain, m_ocall, m_ocallio, m_ocallq, m_ocallz, m_ocomp, m_kO1, m_b1, m_b2, m_kB1, m_kBtt, m_kBff, m_kBtf, m_kBft, m_f0, m_f1, m_kF1, m_kF2t, m_kF2f, m_over, m_kOver, m_range, m_kRange, m_enum, m_kEnum, m_zip, m_kZip, m_zips, m_kZips, m_kXs, m_r0, m_r1, m_seqN, m_seqR, m_seqB, m_seqC, m_asg, m_kAsg, m_asgT, m_kAsgT, m_kEnv, m_par, m_kPar, m_setix, m_kSt1, m_kSt2, m_kSt3, m_kSt4, m_kPut, m_app, m_kAp1L, m_kAp1I, m_kAp2, m_kAp3, m_ins, m_kIn1L, m_kIn1I, m_kIn2, m_kIn3, m_kIn4, m_spoil, m_kSpo, m_exp, m_kExp, m_ite, m_kIte, m_kIttT, m_kIttF, m_for, m_kFor, m_ret, m_kRt, m_retv, m_kRv, m_pass, m_brk, m_cnt, m_turnN, m_turnC, m_turnR, m_turnB, m_some, m_eltT, m_eltF, getV_0, getV_s, set_0, set_s, truth_b, truth_i, truth_n, zipf_0, zipf_s, tg_1, tg_2, tg_3, wipe_0, wipe_s,
    isTyL, isTyI, isTy, pis_int, pis_bool, pis_non, pis_str, pis_list, pis_tup, pis_dict, p_add, p_sub, p_neg, p_lt, p_le, p_gt, p_ge, p_eqi, p_nei, p_eqb, p_neb, p_eqs, p_nes, p_notb, p_isN, p_isnN, p_len, p_lent, p_lenI, p_int, p_intb, p_bitlen, p_abs, p_max2, p_min2, p_rev, p_revI, p_tupof, p_listof, p_sumI, p_allb, p_anyb, p_idx0, p_idx1, p_idx2,
    items_L, items_I, rtv_rt, rtio_rt, rtio_nx, Bool.not_true, Bool.not_false, Bool.false_eq_true, Bool.true_eq_false, ↓reduceIte, if_true, if_false, beq_self_eq_true, bne_self_eq_false, decide_true, decide_false, hi, hw]
    | _ => first | (cases hp; done) | (simp -implicitDefEqProofs (disch := omega) only [qm_cst, qm_var, qm_glo, m_kV, qm_prim, m_kPrim, qm_bop, qm_ife, m_kIfe, m_kIfeT, m_kIfeF, qm_lst, qm_tup, m_kLst, m_kTup, qm_dct, qm_chain, m_kCh1, m_kCh2, m_kCh3T, m_kCh3F, m_kCh4, qm_call, m_kCall, m_kRet, m_kRetX, qm_callio, m_kIo0, m_kIo1, m_kIo2L, m_kIo2I, m_kRio, m_callq', m_kQ1, m_kQ2, m_kQ3, m_callz', m_kZ1, m_kZ2b, m_kZ2i, m_evs0, m_evs1, m_kS1, m_kC, m_o0, m_ovar, m_kV1, m_kV2, m_kV3, m_ocst, m_oglo, m_oprim, m_obop, m_oife, m_olst, m_otup, m_odct, m_ochain, m_ocall, m_ocallio, m_ocallq, m_ocallz, m_ocomp, m_kO1, m_b1, m_b2, m_kB1, m_kBtt, m_kBff, m_kBtf, m_kBft, m_f0, m_f1, m_kF1, m_kF2t, m_kF2f, m_over, m_kOver, m_range, m_kRange, m_enum, m_kEnum, m_zip, m_kZip, m_zips, m_kZips, m_kXs, m_r0, m_r1, m_seqN, m_seqR, m_seqB, m_seqC, m_asg, m_kAsg, m_asgT, m_kAsgT, m_kEnv, m_par, m_kPar, m_setix, m_kSt1, m_kSt2, m_kSt3, m_kSt4, m_kPut, m_app, m_kAp1L, m_kAp1I, m_kAp2, m_kAp3, m_ins, m_kIn1L, m_kIn1I, m_kIn2, m_kIn3, m_kIn4, m_spoil, m_kSpo, m_exp, m_kExp, m_ite, m_kIte, m_kIttT, m_kIttF, m_for, m_kFor, m_ret, m_kRt, m_retv, m_kRv, m_pass, m_brk, m_cnt, m_turnN, m_turnC, m_turnR, m_turnB, m_some, m_eltT, m_eltF, getV_0, getV_s, set_0, set_s, truth_b, truth_i, truth_n, zipf_0, zipf_s, tg_1, tg_2, tg_3, wipe_0, wipe_s,
    isTyL, isTyI, isTy, pis_int, pis_bool, pis_non, pis_str, pis_list, pis_tup, pis_dict, p_add, p_sub, p_neg, p_lt, p_le, p_gt, p_ge, p_eqi, p_nei, p_eqb, p_neb, p_eqs, p_nes, p_notb, p_isN, p_isnN, p_len, p_lent, p_lenI, p_int, p_intb, p_bitlen, p_abs, p_max2, p_min2, p_rev, p_revI, p_tupof, p_listof, p_sumI, p_allb, p_anyb, p_idx0, p_idx1, p_idx2,
    items_L, items_I, rtv_rt, rtio_rt, rtio_nx, Bool.not_true, Bool.not_false, Bool.false_eq_true, Bool.true_eq_false, ↓reduceIte, if_true, if_false, beq_self_eq_true, bne_self_eq_false, decide_true, decide_false, isWay])
  · congr 3
    clear h hl
    induction xs with
    | nil => rfl
    | cons x xs ih => cases hx : isWay x <;> simp [List.filterMap_cons, hx, ih]
theorem law_are_ways {rs : List Int} (hr : Rul rs) (d : D) (h : Ok1 d) (n : Nat) : callD PP GG wf (n + 1) 19 [dI rs, d] = .ok (.bool (isLW rs.length d), none) := by
  refine callD_v (fd := f19) (ρ := [some (dI rs), some d, none]) rfl rfl rfl rfl (.inr rfl) ?_
  rw [runs_aR]
  have hp := h.plain
  have hrl := hr.len
  cases d with
  | list xs =>
    obtain ⟨hs, hl⟩ := h.list
    have q := len_eq xs.length rs.length
    by_cases hx : xs.length = rs.length
    · rw [decide_eq_true hx] at q
      have e2 := c19_0 (some (dI rs)) xs none hs hl (callD PP GG wf n)
      have hs2 : shps 11 (xs.filter fun d => !isWay d) = true := by
        clear e2 q hx hl h hp
        induction xs with
        | nil => rfl
        | cons x xs ih =>
          have h' : shp 11 x = true ∧ shps 11 xs = true := by simpa [shps] using hs
          cases hx : isWay x <;> simp [List.filter_cons, hx, shps, h'.1, ih h'.2]
      have e5 : prim .ne [.list (xs.filter fun d => !isWay d), .list []] = .ok (.bool (!(xs.filter fun d => !isWay d).isEmpty)) := by rw [p_ne _ _ (shp_list hs2) rfl, eqv_nil]
      have e6 : (xs.filter fun d => !isWay d).isEmpty = xs.all isWay := by
        clear e2 e5 hs2 q hx hl h hp hs
        induction xs with
        | nil => rfl
        | cons x xs ih => cases hx : isWay x <;> simp_all [List.filter_cons]
      rw [e6] at e5
      cases ha : xs.all isWay with
      | false => rw [ha] at e5; simp -implicitDefEqProofs (disch := omega) only [f19, qm_cst, qm_var, qm_glo, m_kV, qm_prim, m_kPrim, qm_bop, qm_ife, m_kIfe, m_kIfeT, m_kIfeF, qm_lst, qm_tup, m_kLst, m_kTup, qm_dct, qm_chain, m_kCh1, m_kCh2, m_kCh3T, m_kCh3F, m_kCh4, qm_call, m_kCall, m_kRet, m_kRetX, qm_callio, m_kIo0, m_kIo1, m_kIo2L, m_kIo2I, m_kRio, m_callq', m_kQ1, m_kQ2, m_kQ3, m_callz', m_kZ1, m_kZ2b, m_kZ2i, m_evs0, m_evs1, m_kS1, m_kC, m_o0, m_ovar, m_kV1, m_kV2, m_kV3, m_ocst, m_oglo, m_oprim, m_obop, m_oife, m_olst, m_otup, m_odct, m_ochain, m_ocall, m_ocallio, m_ocallq, m_ocallz, m_ocomp, m_kO1, m_b1, m_b2, m_kB1, m_kBtt, m_kBff, m_kBtf, m_kBft, m_f0, m_f1, m_kF1, m_kF2t, m_kF2f, m_over, m_kOver, m_range, m_kRange, m_enum, m_kEnum, m_zip, m_kZip, m_zips, m_kZips, m_kXs, m_r0, m_r1, m_seqN, m_seqR, m_seqB, m_seqC, m_asg, m_kAsg, m_asgT, m_kAsgT, m_kEnv, m_par, m_kPar, m_setix, m_kSt1, m_kSt2, m_kSt3, m_kSt4, m_kPut, m_app, m_kAp1L, m_kAp1I, m_kAp2, m_kAp3, m_ins, m_kIn1L, m_kIn1I, m_kIn2, m_kIn3, m_kIn4, m_spoil, m_kSpo, m_exp, m_kExp, m_ite, m_kIte, m_kIttT, m_kIttF, m_for, m_kFor, m_ret, m_kRt, m_retv, m_kRv, m_pass, m_brk, m_cnt, m_turnN, m_turnC, m_turnR, m_turnB, m_some, m_eltT, m_eltF, getV_0, getV_s, set_0, set_s, truth_b, truth_i, truth_n, zipf_0, zipf_s, tg_1, tg_2, tg_3, wipe_0, wipe_s,
    isTyL, isTyI, isTy, pis_int, pis_bool, pis_non, pis_str, pis_list, pis_tup, pis_dict, p_add, p_sub, p_neg, p_lt, p_le, p_gt, p_ge, p_eqi, p_nei, p_eqb, p_neb, p_eqs, p_nes, p_notb, p_isN, p_isnN, p_len, p_lent, p_lenI, p_int, p_intb, p_bitlen, p_abs, p_max2, p_min2, p_rev, p_revI, p_tupof, p_listof, p_sumI, p_allb, p_anyb, p_idx0, p_idx1, p_idx2,
    items_L, items_I, rtv_rt, rtio_rt, rtio_nx, Bool.not_true, Bool.not_false, Bool.false_eq_true, Bool.true_eq_false, ↓reduceIte, if_true, if_false, beq_self_eq_true, bne_self_eq_false, decide_true, decide_false, q, f19_c0_ops, aE_of e2, e5, ha, isLW, hx, Bool.false_and, Bool.and_false]
      | true =>
        rw [ha] at e5
        match xs, hx with
        | [], hx => simp at hx; omega
        | x :: t, hx =>
          obtain ⟨s, rfl⟩ := head_way ha
          simp -implicitDefEqProofs (disch := omega) only [f19, qm_cst, qm_var, qm_glo, m_kV, qm_prim, m_kPrim, qm_bop, qm_ife, m_kIfe, m_kIfeT, m_kIfeF, qm_lst, qm_tup, m_kLst, m_kTup, qm_dct, qm_chain, m_kCh1, m_kCh2, m_kCh3T, m_kCh3F, m_kCh4, qm_call, m_kCall, m_kRet, m_kRetX, qm_callio, m_kIo0, m_kIo1, m_kIo2L, m_kIo2I, m_kRio, m_callq', m_kQ1, m_kQ2, m_kQ3, m_callz', m_kZ1, m_kZ2b, m_kZ2i, m_evs0, m_evs1, m_kS1, m_kC, m_o0, m_ovar, m_kV1, m_kV2, m_kV3, m_ocst, m_oglo, m_oprim, m_obop, m_oife, m_olst, m_otup, m_odct, m_ochain, m_ocall, m_ocallio, m_ocallq, m_ocallz, m_ocomp, m_kO1, m_b1, m_b2, m_kB1, m_kBtt, m_kBff, m_kBtf, m_kBft, m_f0, m_f1, m_kF1, m_kF2t, m_kF2f, m_over, m_kOver, m_range, m_kRange, m_enum, m_kEnum, m_zip, m_kZip, m_zips, m_kZips, m_kXs, m_r0, m_r1, m_seqN, m_seqR, m_seqB, m_seqC, m_asg, m_kAsg, m_asgT, m_kAsgT, m_kEnv, m_par, m_kPar, m_setix, m_kSt1, m_kSt2, m_kSt3, m_kSt4, m_kPut, m_app, m_kAp1L, m_kAp1I, m_kAp2, m_kAp3, m_ins, m_kIn1L, m_kIn1I, m_kIn2, m_kIn3, m_kIn4, m_spoil, m_kSpo, m_exp, m_kExp, m_ite, m_kIte, m_kIttT, m_kIttF, m_for, m_kFor, m_ret, m_kRt, m_retv, m_kRv, m_pass, m_brk, m_cnt, m_turnN, m_turnC, m_turnR, m_turnB, m_some, m_eltT, m_eltF, getV_0, getV_s, set_0, set_s, truth_b, truth_i, truth_n, zipf_0, zipf_s, tg_1, tg_2, tg_3, wipe_0, wipe_s,
    isTyL, isTyI, isTy, pis_int, pis_bool, pis_non, pis_str, pis_list, pis_tup, pis_dict, p_add, p_sub, p_neg, p_lt, p_le, p_gt, p_ge, p_eqi, p_nei, p_eqb, p_neb, p_eqs, p_nes, p_notb, p_isN, p_isnN, p_len, p_lent, p_lenI, p_int, p_intb, p_bitlen, p_abs, p_max2, p_min2, p_rev, p_revI, p_tupof, p_listof, p_sumI, p_allb, p_anyb, p_idx0, p_idx1, p_idx2,
    items_L, items_I, rtv_rt, rtio_rt, rtio_nx, Bool.not_true, Bool.not_false, Bool.false_eq_true, Bool.true_eq_false, ↓reduceIte, if_true, if_false, beq_self_eq_true, bne_self_eq_false, decide_true, decide_false, q, f19_c0_ops, aE_of e2, e5, ha, isLW, hx, Bool.true_and]
    · rw [decide_eq_false hx] at q
      simp -implicitDefEqProofs (disch := omega) only [f19, qm_cst, qm_var, qm_glo, m_kV, qm_prim, m_kPrim, qm_bop, qm_ife, m_kIfe, m_kIfeT, m_kIfeF, qm_lst, qm_tup, m_kLst, m_kTup, qm_dct, qm_chain, m_kCh1, m_kCh2, m_kCh3T, m_kCh3F, m_kCh4, qm_call, m_kCall, m_kRet, m_kRetX, qm_callio, m_kIo0, m_kIo1, m_kIo2L, m_kIo2I, m_kRio, m_callq', m_kQ1, m_kQ2, m_kQ3, m_callz', m_kZ1, m_kZ2b, m_kZ2i, m_evs0, m_evs1, m_kS1, m_kC, m_o0, m_ovar, m_kV1, m_kV2, m_kV3, m_ocst, m_oglo, m_oprim, m_obop, m_oife, m_olst, m_otup, m_odct, m_ochain, m_ocall, m_ocallio, m_ocallq, m_ocallz, m_ocomp, m_kO1, m_b1, m_b2, m_kB1, m_kBtt, m_kBff, m_kBtf, m_kBft, m_f0, m_f1, m_kF1, m_kF2t, m_kF2f, m_over, m_kOver, m_range, m_kRange, m_enum, m_kEnum, m_zip, m_kZip, m_zips, m_kZips, m_kXs, m_r0, m_r1, m_seqN, m_seqR, m_seqB, m_seqC, m_asg, m_kAsg, m_asgT, m_kAsgT, m_kEnv, m_par, m_kPar, m_setix, m_kSt1, m_kSt2, m_kSt3, m_kSt4, m_kPut, m_app, m_kAp1L, m_kAp1I, m_kAp2, m_kAp3, m_ins, m_kIn1L, m_kIn1I, m_kIn2, m_kIn3, m_kIn4, m_spoil, m_kSpo, m_exp, m_kExp, m_ite, m_kIte, m_kIttT, m_kIttF, m_for, m_kFor, m_ret, m_kRt, m_retv, m_kRv, m_pass, m_brk, m_cnt, m_turnN, m_turnC, m_turnR, m_turnB, m_some, m_eltT, m_eltF, getV_0, getV_s, set_0, set_s, truth_b, truth_i, truth_n, zipf_0, zipf_s, tg_1, tg_2, tg_3, wipe_0, wipe_s,
    isTyL, isTyI, isTy, pis_int, pis_bool, pis_non, pis_str, pis_list, pis_tup, pis_dict, p_add, p_sub, p_neg, p_lt, p_le, p_gt, p_ge, p_eqi, p_nei, p_eqb, p_neb, p_eqs, p_nes, p_notb, p_isN, p_isnN, p_len, p_lent, p_lenI, p_int, p_intb, p_bitlen, p_abs, p_max2, p_min2, p_rev, p_revI, p_tupof, p_listof, p_sumI, p_allb, p_anyb, p_idx0, p_idx1, p_idx2,
    items_L, items_I, rtv_rt, rtio_rt, rtio_nx, Bool.not_true, Bool.not_false, Bool.false_eq_true, Bool.true_eq_false, ↓reduceIte, if_true, if_false, beq_self_eq_true, bne_self_eq_false, decide_true, decide_false, q, isLW, hx, Bool.false_and]
  | _ => first | (cases hp; done) | (simp -implicitDefEqProofs (disch := omega) only [f19, qm_cst, qm_var, qm_glo, m_kV, qm_prim, m_kPrim, qm_bop, qm_ife, m_kIfe, m_kIfeT, m_kIfeF, qm_lst, qm_tup, m_kLst, m_kTup, qm_dct, qm_chain, m_kCh1, m_kCh2, m_kCh3T, m_kCh3F, m_kCh4, qm_call, m_kCall, m_kRet, m_kRetX, qm_callio, m_kIo0, m_kIo1, m_kIo2L, m_kIo2I, m_kRio, m_callq', m_kQ1, m_kQ2, m_kQ3, m_callz', m_kZ1, m_kZ2b, m_kZ2i, m_evs0, m_evs1, m_kS1, m_kC, m_o0, m_ovar, m_kV1, m_kV2, m_kV3, m_ocst, m_oglo, m_oprim, m_obop, m_oife, m_olst, m_otup, m_odct, m_ochain, m_ocall, m_ocallio, m_ocallq, m_ocallz, m_ocomp, m_kO1, m_b1, m_b2, m_kB1, m_kBtt, m_kBff, m_kBtf, m_kBft, m_f0, m_f1, m_kF1, m_kF2t, m_kF2f, m_over, m_kOver, m_range, m_kRange, m_enum, m_kEnum, m_zip, m_kZip, m_zips, m_kZips, m_kXs, m_r0, m_r1, m_seqN, m_seqR, m_seqB, m_seqC, m_asg, m_kAsg, m_asgT, m_kAsgT, m_kEnv, m_par, m_kPar, m_setix, m_kSt1, m_kSt2, m_kSt3, m_kSt4, m_kPut, m_app, m_kAp1L, m_kAp1I, m_kAp2, m_kAp3, m_ins, m_kIn1L, m_kIn1I, m_kIn2, m_kIn3, m_kIn4, m_spoil, m_kSpo, m_exp, m_kExp, m_ite, m_kIte, m_kIttT, m_kIttF, m_for, m_kFor, m_ret, m_kRt, m_retv, m_kRv, m_pass, m_brk, m_cnt, m_turnN, m_turnC, m_turnR, m_turnB, m_some, m_eltT, m_eltF, getV_0, getV_s, set_0, set_s, truth_b, truth_i, truth_n, zipf_0, zipf_s, tg_1, tg_2, tg_3, wipe_0, wipe_s,
    isTyL, isTyI, isTy, pis_int, pis_bool, pis_non, pis_str, pis_list, pis_tup, pis_dict, p_add, p_sub, p_neg, p_lt, p_le, p_gt, p_ge, p_eqi, p_nei, p_eqb, p_neb, p_eqs, p_nes, p_notb, p_isN, p_isnN, p_len, p_lent, p_lenI, p_int, p_intb, p_bitlen, p_abs, p_max2, p_min2, p_rev, p_revI, p_tupof, p_listof, p_sumI, p_allb, p_anyb, p_idx0, p_idx1, p_idx2,
    items_L, items_I, rtv_rt, rtio_rt, rtio_nx, Bool.not_true, Bool.not_false, Bool.false_eq_true, Bool.true_eq_false, ↓reduceIte, if_true, if_false, beq_self_eq_true, bne_self_eq_false, decide_true, decide_false, isLW])
/-- a list of ways that are laid over a ruler -/
def Way (rs : List Int) (bs : List Bool) : Prop := bs.length = rs.length ∧ bs.head? = some true
theorem all_way : ∀ bs : List Bool, (bs.map way).all isWay = true
  | [] => rfl
  | b :: bs => by
    rw [List.map_cons, List.all_cons, all_way bs]
    cases b <;> rfl
theorem Way.is {rs : List Int} {bs : List Bool} (h : Way rs bs) : isLW rs.length (dW bs) = true := by
  obtain ⟨h1, h2⟩ := h
  cases bs with
  | nil => cases h2
  | cons b bs =>
    have : b = true := by simpa using h2
    subst this
    show (decide (((true :: bs).map way).length = rs.length) && (((true :: bs).map way).all isWay && _)) = true
    rw [List.length_map, all_way, decide_eq_true h1]; rfl
theorem shps_W : ∀ (n : Nat) (bs : List Bool), shps n (bs.map way) = true
  | _, [] => rfl
  | n, b :: bs => by
    rw [List.map_cons]; show (shp n (way b) && _) = true
    rw [shps_W n bs]; cases n <;> rfl
theorem Way.ok {rs : List Int} {bs : List Bool} (hr : Rul rs) (h : Way rs bs) : Ok1 (dW bs) := by
  refine .inr ⟨shp_list (shps_W 11 bs), ?_⟩
  intro ys e
  cases e
  have := hr.2.2
  have := h.1
  show _ ≤ 16777216
  simp; omega
theorem check_laid {rs : List Int} {bs : List Bool} (hr : Rul rs) (h : Way rs bs) (n : Nat) : callD PP GG wf (n + 4) 5 [dI rs, dW bs] = .ok (.non, none) := by
  have e := laid_of (wf := wf) hr (dW bs) (h.ok hr) (n + 2)
  have e1 := check_ruler (wf := wf) hr n
  rw [h.is] at e
  refine callD_u (fd := f5) (ρ := [some (dI rs), some (dW bs)]) (ρ' := [some (dI rs), some (dW bs)]) rfl rfl rfl rfl ?_
  rw [runs_id]
  simp -implicitDefEqProofs (disch := omega) only [f5, qm_cst, qm_var, qm_glo, m_kV, qm_prim, m_kPrim, qm_bop, qm_ife, m_kIfe, m_kIfeT, m_kIfeF, qm_lst, qm_tup, m_kLst, m_kTup, qm_dct, qm_chain, m_kCh1, m_kCh2, m_kCh3T, m_kCh3F, m_kCh4, qm_call, m_kCall, m_kRet, m_kRetX, qm_callio, m_kIo0, m_kIo1, m_kIo2L, m_kIo2I, m_kRio, m_callq', m_kQ1, m_kQ2, m_kQ3, m_callz', m_kZ1, m_kZ2b, m_kZ2i, m_evs0, m_evs1, m_kS1, m_kC, m_o0, m_ovar, m_kV1, m_kV2, m_kV3, m_ocst, m_oglo, m_oprim, m_obop, m_oife, m_olst, m_otup, m_odct, m_ochain, m_ocall, m_ocallio, m_ocallq, m_ocallz, m_ocomp, m_kO1, m_b1, m_b2, m_kB1, m_kBtt, m_kBff, m_kBtf, m_kBft, m_f0, m_f1, m_kF1, m_kF2t, m_kF2f, m_over, m_kOver, m_range, m_kRange, m_enum, m_kEnum, m_zip, m_kZip, m_zips, m_kZips, m_kXs, m_r0, m_r1, m_seqN, m_seqR, m_seqB, m_seqC, m_asg, m_kAsg, m_asgT, m_kAsgT, m_kEnv, m_par, m_kPar, m_setix, m_kSt1, m_kSt2, m_kSt3, m_kSt4, m_kPut, m_app, m_kAp1L, m_kAp1I, m_kAp2, m_kAp3, m_ins, m_kIn1L, m_kIn1I, m_kIn2, m_kIn3, m_kIn4, m_spoil, m_kSpo, m_exp, m_kExp, m_ite, m_kIte, m_kIttT, m_kIttF, m_for, m_kFor, m_ret, m_kRt, m_retv, m_kRv, m_pass, m_brk, m_cnt, m_turnN, m_turnC, m_turnR, m_turnB, m_some, m_eltT, m_eltF, getV_0, getV_s, set_0, set_s, truth_b, truth_i, truth_n, zipf_0, zipf_s, tg_1, tg_2, tg_3, wipe_0, wipe_s,
    isTyL, isTyI, isTy, pis_int, pis_bool, pis_non, pis_str, pis_list, pis_tup, pis_dict, p_add, p_sub, p_neg, p_lt, p_le, p_gt, p_ge, p_eqi, p_nei, p_eqb, p_neb, p_eqs, p_nes, p_notb, p_isN, p_isnN, p_len, p_lent, p_lenI, p_int, p_intb, p_bitlen, p_abs, p_max2, p_min2, p_rev, p_revI, p_tupof, p_listof, p_sumI, p_allb, p_anyb, p_idx0, p_idx1, p_idx2,
    items_L, items_I, rtv_rt, rtio_rt, rtio_nx, Bool.not_true, Bool.not_false, Bool.false_eq_true, Bool.true_eq_false, ↓reduceIte, if_true, if_false, beq_self_eq_true, bne_self_eq_false, decide_true, decide_false, e1, e, id]
theorem are_laid {rs : List Int} (hr : Rul rs) (d : D) (h : Ok1 d) (n : Nat) : callD PP GG wf (n + 4) 4 [dI rs, d] = .ok (.bool (isLW rs.length d), none) := by
  have e := laid_of (wf := wf) hr d h (n + 2)
  have e1 := check_ruler (wf := wf) hr n
  refine callD_v (fd := f4) (ρ := [some (dI rs), some d]) rfl rfl rfl rfl (.inr rfl) ?_
  rw [runs_aR]
  simp -implicitDefEqProofs (disch := omega) only [f4, qm_cst, qm_var, qm_glo, m_kV, qm_prim, m_kPrim, qm_bop, qm_ife, m_kIfe, m_kIfeT, m_kIfeF, qm_lst, qm_tup, m_kLst, m_kTup, qm_dct, qm_chain, m_kCh1, m_kCh2, m_kCh3T, m_kCh3F, m_kCh4, qm_call, m_kCall, m_kRet, m_kRetX, qm_callio, m_kIo0, m_kIo1, m_kIo2L, m_kIo2I, m_kRio, m_callq', m_kQ1, m_kQ2, m_kQ3, m_callz', m_kZ1, m_kZ2b, m_kZ2i, m_evs0, m_evs1, m_kS1, m_kC, m_o0, m_ovar, m_kV1, m_kV2, m_kV3, m_ocst, m_oglo, m_oprim, m_obop, m_oife, m_olst, m_otup, m_odct, m_ochain, m_ocall, m_ocallio, m_ocallq, m_ocallz, m_ocomp, m_kO1, m_b1, m_b2, m_kB1, m_kBtt, m_kBff, m_kBtf, m_kBft, m_f0, m_f1, m_kF1, m_kF2t, m_kF2f, m_over, m_kOver, m_range, m_kRange, m_enum, m_kEnum, m_zip, m_kZip, m_zips, m_kZips, m_kXs, m_r0, m_r1, m_seqN, m_seqR, m_seqB, m_seqC, m_asg, m_kAsg, m_asgT, m_kAsgT, m_kEnv, m_par, m_kPar, m_setix, m_kSt1, m_kSt2, m_kSt3, m_kSt4, m_kPut, m_app, m_kAp1L, m_kAp1I, m_kAp2, m_kAp3, m_ins, m_kIn1L, m_kIn1I, m_kIn2, m_kIn3, m_kIn4, m_spoil, m_kSpo, m_exp, m_kExp, m_ite, m_kIte, m_kIttT, m_kIttF, m_for, m_kFor, m_ret, m_kRt, m_retv, m_kRv, m_pass, m_brk, m_cnt, m_turnN, m_turnC, m_turnR, m_turnB, m_some, m_eltT, m_eltF, getV_0, getV_s, set_0, set_s, truth_b, truth_i, truth_n, zipf_0, zipf_s, tg_1, tg_2, tg_3, wipe_0, wipe_s,
    isTyL, isTyI, isTy, pis_int, pis_bool, pis_non, pis_str, pis_list, pis_tup, pis_dict, p_add, p_sub, p_neg, p_lt, p_le, p_gt, p_ge, p_eqi, p_nei, p_eqb, p_neb, p_eqs, p_nes, p_notb, p_isN, p_isnN, p_len, p_lent, p_lenI, p_int, p_intb, p_bitlen, p_abs, p_max2, p_min2, p_rev, p_revI, p_tupof, p_listof, p_sumI, p_allb, p_anyb, p_idx0, p_idx1, p_idx2,
    items_L, items_I, rtv_rt, rtio_rt, rtio_nx, Bool.not_true, Bool.not_false, Bool.false_eq_true, Bool.true_eq_false, ↓reduceIte, if_true, if_false, beq_self_eq_true, bne_self_eq_false, decide_true, decide_false, e1, e]
theorem are_laidK {rs : List Int} (hr : Rul rs) (d : D) (h : Ok1 d) (n : Nat) : callD PP GG wf (n + 4) 24 [d, dI rs] = .ok (.bool (isLW rs.length d), none) := by
  have e := laid_of (wf := wf) hr d h (n + 2)
  have e1 := check_ruler (wf := wf) hr n
  refine callD_v (fd := f24) (ρ := [some d, some (dI rs)]) rfl rfl rfl rfl (.inr rfl) ?_
  rw [runs_aR]
  simp -implicitDefEqProofs (disch := omega) only [f24, qm_cst, qm_var, qm_glo, m_kV, qm_prim, m_kPrim, qm_bop, qm_ife, m_kIfe, m_kIfeT, m_kIfeF, qm_lst, qm_tup, m_kLst, m_kTup, qm_dct, qm_chain, m_kCh1, m_kCh2, m_kCh3T, m_kCh3F, m_kCh4, qm_call, m_kCall, m_kRet, m_kRetX, qm_callio, m_kIo0, m_kIo1, m_kIo2L, m_kIo2I, m_kRio, m_callq', m_kQ1, m_kQ2, m_kQ3, m_callz', m_kZ1, m_kZ2b, m_kZ2i, m_evs0, m_evs1, m_kS1, m_kC, m_o0, m_ovar, m_kV1, m_kV2, m_kV3, m_ocst, m_oglo, m_oprim, m_obop, m_oife, m_olst, m_otup, m_odct, m_ochain, m_ocall, m_ocallio, m_ocallq, m_ocallz, m_ocomp, m_kO1, m_b1, m_b2, m_kB1, m_kBtt, m_kBff, m_kBtf, m_kBft, m_f0, m_f1, m_kF1, m_kF2t, m_kF2f, m_over, m_kOver, m_range, m_kRange, m_enum, m_kEnum, m_zip, m_kZip, m_zips, m_kZips, m_kXs, m_r0, m_r1, m_seqN, m_seqR, m_seqB, m_seqC, m_asg, m_kAsg, m_asgT, m_kAsgT, m_kEnv, m_par, m_kPar, m_setix, m_kSt1, m_kSt2, m_kSt3, m_kSt4, m_kPut, m_app, m_kAp1L, m_kAp1I, m_kAp2, m_kAp3, m_ins, m_kIn1L, m_kIn1I, m_kIn2, m_kIn3, m_kIn4, m_spoil, m_kSpo, m_exp, m_kExp, m_ite, m_kIte, m_kIttT, m_kIttF, m_for, m_kFor, m_ret, m_kRt, m_retv, m_kRv, m_pass, m_brk, m_cnt, m_turnN, m_turnC, m_turnR, m_turnB, m_some, m_eltT, m_eltF, getV_0, getV_s, set_0, set_s, truth_b, truth_i, truth_n, zipf_0, zipf_s, tg_1, tg_2, tg_3, wipe_0, wipe_s,
    isTyL, isTyI, isTy, pis_int, pis_bool, pis_non, pis_str, pis_list, pis_tup, pis_dict, p_add, p_sub, p_neg, p_lt, p_le, p_gt, p_ge, p_eqi, p_nei, p_eqb, p_neb, p_eqs, p_nes, p_notb, p_isN, p_isnN, p_len, p_lent, p_lenI, p_int, p_intb, p_bitlen, p_abs, p_max2, p_min2, p_rev, p_revI, p_tupof, p_listof, p_sumI, p_allb, p_anyb, p_idx0, p_idx1, p_idx2,
    items_L, items_I, rtv_rt, rtio_rt, rtio_nx, Bool.not_true, Bool.not_false, Bool.false_eq_true, Bool.true_eq_false, ↓reduceIte, if_true, if_false, beq_self_eq_true, bne_self_eq_false, decide_true, decide_false, e1, e]
end
/-! ### joints -/
def steps (rs : List Int) (bs : List Bool) : List Int := List.zipWith (fun l b => if b then l else 0 - l) rs bs
def jN (st : List Int) : Nat → List Int
  | 0 => [0]
  | j + 1 => jN st j ++ [(jN st j).getLastD 0 + gi st j]
theorem jN_len (st : List Int) : ∀ j, (jN st j).length = j + 1
  | 0 => rfl
  | j + 1 => by simp [jN, jN_len st j]
theorem jN_ne (st : List Int) (j : Nat) : jN st j ≠ [] := fun e => by
  have := jN_len st j
  rw [e] at this; simp at this
def joints (st : List Int) : List Int := jN st st.length
theorem way_eq (b : Bool) : prim .eq [way b, .str (cs [114])] = .ok (.bool b) := by cases b <;> rfl
theorem way_eql (b : Bool) : prim .eq [way b, .str (cs [108])] = .ok (.bool !b) := by cases b <;> rfl
theorem items_at {rs : List Int} {bs : List Bool} (h : bs.length = rs.length) {j : Nat} {d : D} (hj : (((rs.map D.int).zip (bs.map way)).map fun p => D.tup [p.1, p.2])[j]? = some d) :
    j < rs.length ∧ ∃ b, d = D.tup [.int (gi rs j), way b] ∧ gi (steps rs bs) j = if b then gi rs j else 0 - gi rs j := by
  have hlt : j < rs.length := by have := (List.getElem?_eq_some_iff.mp hj).1; simp at this; omega
  have hb : j < bs.length := by omega
  refine ⟨hlt, bs[j], ?_, ?_⟩
  · have := (List.getElem?_eq_some_iff.mp hj).2
    rw [← this]
    simp [gi, List.getD_eq_getElem?_getD, List.getElem?_eq_getElem hlt]
  · unfold gi steps
    rw [Int.toNat_natCast, List.getD_eq_getElem?_getD, List.getElem?_zipWith, List.getElem?_eq_getElem hlt, List.getElem?_eq_getElem hb, List.getD_eq_getElem?_getD, List.getElem?_eq_getElem hlt]
    rfl
theorem steps_len {rs : List Int} {bs : List Bool} (h : bs.length = rs.length) : (steps rs bs).length = rs.length := by unfold steps; simp; omega
section
variable {wf : Nat}
theorem l6_0 {rs : List Int} {bs : List Bool} (hl : rs.length ≤ 100) (h : bs.length = rs.length) (c : Fh.Callee) : ∃ u v, run GG c wf f6_l0 [some (dI rs), some (dW bs), some (dI [0]), none, none] = .nx [some (dI rs), some (dW bs), some (dI (joints (steps rs bs))), u, v] := by
  have hz : zipsOf [dI rs, dW bs] = .ok (((rs.map D.int).zip (bs.map way)).map fun p => D.tup [p.1, p.2]) := zips_L _ _ (by simp; omega)
  have hi : evIt GG c (.zips (.cons (.var 0) (.cons (.var 1) .nil))) [some (dI rs), some (dW bs), some (dI [0]), none, none] = .ok (((rs.map D.int).zip (bs.map way)).map fun p => D.tup [p.1, p.2], [some (dI rs), some (dW bs), some (dI [0]), none, none]) := by
    rw [it_id]; simp -implicitDefEqProofs (disch := omega) only [qm_cst, qm_var, qm_glo, m_kV, qm_prim, m_kPrim, qm_bop, qm_ife, m_kIfe, m_kIfeT, m_kIfeF, qm_lst, qm_tup, m_kLst, m_kTup, qm_dct, qm_chain, m_kCh1, m_kCh2, m_kCh3T, m_kCh3F, m_kCh4, qm_call, m_kCall, m_kRet, m_kRetX, qm_callio, m_kIo0, m_kIo1, m_kIo2L, m_kIo2I, m_kRio, m_callq', m_kQ1, m_kQ2, m_kQ3, m_callz', m_kZ1, m_kZ2b, m_kZ2i, m_evs0, m_evs1, m_kS1, m_kC, m_o0, m_ovar, m_kV1, m_kV2, m_kV3, m_ocst, m_oglo, m_oprim, m_obop, m_oife, m_olst, m_otup, m_odct, m_ochain, m_ocall, m_ocallio, m_ocallq, m_ocallz, m_ocomp, m_kO1, m_b1, m_b2, m_kB1, m_kBtt, m_kBff, m_kBtf, m_kBft, m_f0, m_f1, m_kF1, m_kF2t, m_kF2f, m_over, m_kOver, m_range, m_kRange, m_enum, m_kEnum, m_zip, m_kZip, m_zips, m_kZips, m_kXs, m_r0, m_r1, m_seqN, m_seqR, m_seqB, m_seqC, m_asg, m_kAsg, m_asgT, m_kAsgT, m_kEnv, m_par, m_kPar, m_setix, m_kSt1, m_kSt2, m_kSt3, m_kSt4, m_kPut, m_app, m_kAp1L, m_kAp1I, m_kAp2, m_kAp3, m_ins, m_kIn1L, m_kIn1I, m_kIn2, m_kIn3, m_kIn4, m_spoil, m_kSpo, m_exp, m_kExp, m_ite, m_kIte, m_kIttT, m_kIttF, m_for, m_kFor, m_ret, m_kRt, m_retv, m_kRv, m_pass, m_brk, m_cnt, m_turnN, m_turnC, m_turnR, m_turnB, m_some, m_eltT, m_eltF, getV_0, getV_s, set_0, set_s, truth_b, truth_i, truth_n, zipf_0, zipf_s, tg_1, tg_2, tg_3, wipe_0, wipe_s,
    isTyL, isTyI, isTy, pis_int, pis_bool, pis_non, pis_str, pis_list, pis_tup, pis_dict, p_add, p_sub, p_neg, p_lt, p_le, p_gt, p_ge, p_eqi, p_nei, p_eqb, p_neb, p_eqs, p_nes, p_notb, p_isN, p_isnN, p_len, p_lent, p_lenI, p_int, p_intb, p_bitlen, p_abs, p_max2, p_min2, p_rev, p_revI, p_tupof, p_listof, p_sumI, p_allb, p_anyb, p_idx0, p_idx1, p_idx2,
    items_L, items_I, rtv_rt, rtio_rt, rtio_nx, Bool.not_true, Bool.not_false, Bool.false_eq_true, Bool.true_eq_false, ↓reduceIte, if_true, if_false, beq_self_eq_true, bne_self_eq_false, decide_true, decide_false, hz, id]
  obtain ⟨r, e, u, v, hr⟩ := forLoop_inv (Tg.tup [3, 4]).set (fun r => runs GG c wf f6_b0 r) (fun j ρ => ∃ u v : Option D, ρ = [some (dI rs), some (dW bs), some (dI (jN (steps rs bs) j)), u, v]) (((rs.map D.int).zip (bs.map way)).map fun p => D.tup [p.1, p.2]) 0 [some (dI rs), some (dW bs), some (dI [0]), none, none] ⟨none, none, rfl⟩ (by
    rintro j d _ hj ⟨u, v, rfl⟩
    obtain ⟨hlt, b, rfl, hg⟩ := items_at h hj
    refine ⟨[some (dI rs), some (dW bs), some (dI (jN (steps rs bs) (j + 1))), some (.int (gi rs j)), some (way b)], ?_, _, _, by rw [Nat.zero_add]⟩
    rw [turnF_eq rfl, Nat.zero_add]
    have hn := jN_len (steps rs bs) j
    cases b with
    | true => simp -implicitDefEqProofs (disch := omega) only [f6_b0, qm_cst, qm_var, qm_glo, m_kV, qm_prim, m_kPrim, qm_bop, qm_ife, m_kIfe, m_kIfeT, m_kIfeF, qm_lst, qm_tup, m_kLst, m_kTup, qm_dct, qm_chain, m_kCh1, m_kCh2, m_kCh3T, m_kCh3F, m_kCh4, qm_call, m_kCall, m_kRet, m_kRetX, qm_callio, m_kIo0, m_kIo1, m_kIo2L, m_kIo2I, m_kRio, m_callq', m_kQ1, m_kQ2, m_kQ3, m_callz', m_kZ1, m_kZ2b, m_kZ2i, m_evs0, m_evs1, m_kS1, m_kC, m_o0, m_ovar, m_kV1, m_kV2, m_kV3, m_ocst, m_oglo, m_oprim, m_obop, m_oife, m_olst, m_otup, m_odct, m_ochain, m_ocall, m_ocallio, m_ocallq, m_ocallz, m_ocomp, m_kO1, m_b1, m_b2, m_kB1, m_kBtt, m_kBff, m_kBtf, m_kBft, m_f0, m_f1, m_kF1, m_kF2t, m_kF2f, m_over, m_kOver, m_range, m_kRange, m_enum, m_kEnum, m_zip, m_kZip, m_zips, m_kZips, m_kXs, m_r0, m_r1, m_seqN, m_seqR, m_seqB, m_seqC, m_asg, m_kAsg, m_asgT, m_kAsgT, m_kEnv, m_par, m_kPar, m_setix, m_kSt1, m_kSt2, m_kSt3, m_kSt4, m_kPut, m_app, m_kAp1L, m_kAp1I, m_kAp2, m_kAp3, m_ins, m_kIn1L, m_kIn1I, m_kIn2, m_kIn3, m_kIn4, m_spoil, m_kSpo, m_exp, m_kExp, m_ite, m_kIte, m_kIttT, m_kIttF, m_for, m_kFor, m_ret, m_kRt, m_retv, m_kRv, m_pass, m_brk, m_cnt, m_turnN, m_turnC, m_turnR, m_turnB, m_some, m_eltT, m_eltF, getV_0, getV_s, set_0, set_s, truth_b, truth_i, truth_n, zipf_0, zipf_s, tg_1, tg_2, tg_3, wipe_0, wipe_s,
    isTyL, isTyI, isTy, pis_int, pis_bool, pis_non, pis_str, pis_list, pis_tup, pis_dict, p_add, p_sub, p_neg, p_lt, p_le, p_gt, p_ge, p_eqi, p_nei, p_eqb, p_neb, p_eqs, p_nes, p_notb, p_isN, p_isnN, p_len, p_lent, p_lenI, p_int, p_intb, p_bitlen, p_abs, p_max2, p_min2, p_rev, p_revI, p_tupof, p_listof, p_sumI, p_allb, p_anyb, p_idx0, p_idx1, p_idx2,
    items_L, items_I, rtv_rt, rtio_rt, rtio_nx, Bool.not_true, Bool.not_false, Bool.false_eq_true, Bool.true_eq_false, ↓reduceIte, if_true, if_false, beq_self_eq_true, bne_self_eq_false, decide_true, decide_false, way_eq, p_lastI' _ (jN_ne (steps rs bs) j), appI, jN, hg]
    | false => simp -implicitDefEqProofs (disch := omega) only [f6_b0, qm_cst, qm_var, qm_glo, m_kV, qm_prim, m_kPrim, qm_bop, qm_ife, m_kIfe, m_kIfeT, m_kIfeF, qm_lst, qm_tup, m_kLst, m_kTup, qm_dct, qm_chain, m_kCh1, m_kCh2, m_kCh3T, m_kCh3F, m_kCh4, qm_call, m_kCall, m_kRet, m_kRetX, qm_callio, m_kIo0, m_kIo1, m_kIo2L, m_kIo2I, m_kRio, m_callq', m_kQ1, m_kQ2, m_kQ3, m_callz', m_kZ1, m_kZ2b, m_kZ2i, m_evs0, m_evs1, m_kS1, m_kC, m_o0, m_ovar, m_kV1, m_kV2, m_kV3, m_ocst, m_oglo, m_oprim, m_obop, m_oife, m_olst, m_otup, m_odct, m_ochain, m_ocall, m_ocallio, m_ocallq, m_ocallz, m_ocomp, m_kO1, m_b1, m_b2, m_kB1, m_kBtt, m_kBff, m_kBtf, m_kBft, m_f0, m_f1, m_kF1, m_kF2t, m_kF2f, m_over, m_kOver, m_range, m_kRange, m_enum, m_kEnum, m_zip, m_kZip, m_zips, m_kZips, m_kXs, m_r0, m_r1, m_seqN, m_seqR, m_seqB, m_seqC, m_asg, m_kAsg, m_asgT, m_kAsgT, m_kEnv, m_par, m_kPar, m_setix, m_kSt1, m_kSt2, m_kSt3, m_kSt4, m_kPut, m_app, m_kAp1L, m_kAp1I, m_kAp2, m_kAp3, m_ins, m_kIn1L, m_kIn1I, m_kIn2, m_kIn3, m_kIn4, m_spoil, m_kSpo, m_exp, m_kExp, m_ite, m_kIte, m_kIttT, m_kIttF, m_for, m_kFor, m_ret, m_kRt, m_retv, m_kRv, m_pass, m_brk, m_cnt, m_turnN, m_turnC, m_turnR, m_turnB, m_some, m_eltT, m_eltF, getV_0, getV_s, set_0, set_s, truth_b, truth_i, truth_n, zipf_0, zipf_s, tg_1, tg_2, tg_3, wipe_0, wipe_s,
    isTyL, isTyI, isTy, pis_int, pis_bool, pis_non, pis_str, pis_list, pis_tup, pis_dict, p_add, p_sub, p_neg, p_lt, p_le, p_gt, p_ge, p_eqi, p_nei, p_eqb, p_neb, p_eqs, p_nes, p_notb, p_isN, p_isnN, p_len, p_lent, p_lenI, p_int, p_intb, p_bitlen, p_abs, p_max2, p_min2, p_rev, p_revI, p_tupof, p_listof, p_sumI, p_allb, p_anyb, p_idx0, p_idx1, p_idx2,
    items_L, items_I, rtv_rt, rtio_rt, rtio_nx, Bool.not_true, Bool.not_false, Bool.false_eq_true, Bool.true_eq_false, ↓reduceIte, if_true, if_false, beq_self_eq_true, bne_self_eq_false, decide_true, decide_false, way_eq, p_lastI' _ (jN_ne (steps rs bs) j), appI, jN, hg])
  subst hr
  refine ⟨u, v, ?_⟩
  unfold f6_l0
  rw [run_for, hi, R.out_ok, e]
  have : 0 + (((rs.map D.int).zip (bs.map way)).map fun p => D.tup [p.1, p.2]).length = (steps rs bs).length := by rw [steps_len h]; simp; omega
  rw [this]; rfl
theorem joints_in {rs : List Int} {bs : List Bool} (hl : rs.length ≤ 100) (h : bs.length = rs.length) (n : Nat) : callD PP GG wf (n + 1) 6 [dI rs, dW bs] = .ok (dI (joints (steps rs bs)), none) := by
  obtain ⟨u, v, e⟩ := l6_0 (wf := wf) hl h (callD PP GG wf n)
  have h0 : D.list [.int 0] = dI [0] := rfl
  refine callD_v (fd := f6) (ρ := [some (dI rs), some (dW bs), none, none, none]) rfl rfl rfl rfl (.inl rfl) ?_
  rw [runs_aR]
  simp -implicitDefEqProofs (disch := omega) only [f6, qm_cst, qm_var, qm_glo, m_kV, qm_prim, m_kPrim, qm_bop, qm_ife, m_kIfe, m_kIfeT, m_kIfeF, qm_lst, qm_tup, m_kLst, m_kTup, qm_dct, qm_chain, m_kCh1, m_kCh2, m_kCh3T, m_kCh3F, m_kCh4, qm_call, m_kCall, m_kRet, m_kRetX, qm_callio, m_kIo0, m_kIo1, m_kIo2L, m_kIo2I, m_kRio, m_callq', m_kQ1, m_kQ2, m_kQ3, m_callz', m_kZ1, m_kZ2b, m_kZ2i, m_evs0, m_evs1, m_kS1, m_kC, m_o0, m_ovar, m_kV1, m_kV2, m_kV3, m_ocst, m_oglo, m_oprim, m_obop, m_oife, m_olst, m_otup, m_odct, m_ochain, m_ocall, m_ocallio, m_ocallq, m_ocallz, m_ocomp, m_kO1, m_b1, m_b2, m_kB1, m_kBtt, m_kBff, m_kBtf, m_kBft, m_f0, m_f1, m_kF1, m_kF2t, m_kF2f, m_over, m_kOver, m_range, m_kRange, m_enum, m_kEnum, m_zip, m_kZip, m_zips, m_kZips, m_kXs, m_r0, m_r1, m_seqN, m_seqR, m_seqB, m_seqC, m_asg, m_kAsg, m_asgT, m_kAsgT, m_kEnv, m_par, m_kPar, m_setix, m_kSt1, m_kSt2, m_kSt3, m_kSt4, m_kPut, m_app, m_kAp1L, m_kAp1I, m_kAp2, m_kAp3, m_ins, m_kIn1L, m_kIn1I, m_kIn2, m_kIn3, m_kIn4, m_spoil, m_kSpo, m_exp, m_kExp, m_ite, m_kIte, m_kIttT, m_kIttF, m_for, m_kFor, m_ret, m_kRt, m_retv, m_kRv, m_pass, m_brk, m_cnt, m_turnN, m_turnC, m_turnR, m_turnB, m_some, m_eltT, m_eltF, getV_0, getV_s, set_0, set_s, truth_b, truth_i, truth_n, zipf_0, zipf_s, tg_1, tg_2, tg_3, wipe_0, wipe_s,
    isTyL, isTyI, isTy, pis_int, pis_bool, pis_non, pis_str, pis_list, pis_tup, pis_dict, p_add, p_sub, p_neg, p_lt, p_le, p_gt, p_ge, p_eqi, p_nei, p_eqb, p_neb, p_eqs, p_nes, p_notb, p_isN, p_isnN, p_len, p_lent, p_lenI, p_int, p_intb, p_bitlen, p_abs, p_max2, p_min2, p_rev, p_revI, p_tupof, p_listof, p_sumI, p_allb, p_anyb, p_idx0, p_idx1, p_idx2,
    items_L, items_I, rtv_rt, rtio_rt, rtio_nx, Bool.not_true, Bool.not_false, Bool.false_eq_true, Bool.true_eq_false, ↓reduceIte, if_true, if_false, beq_self_eq_true, bne_self_eq_false, decide_true, decide_false, h0, aT_of e]
theorem l17_0 {rs : List Int} {bs : List Bool} (hl : rs.length ≤ 100) (h : bs.length = rs.length) (c : Fh.Callee) : ∃ u v, run GG c wf f17_l0 [some (dI rs), some (dW bs), some (dI [0]), none, none] = .nx [some (dI rs), some (dW bs), some (dI (joints (steps rs bs))), u, v] := by
  have hz : zipOf [dI rs, dW bs] = .ok (((rs.map D.int).zip (bs.map way)).map fun p => D.tup [p.1, p.2]) := zip_L _ _
  have hi : evIt GG c (.zip (.cons (.var 0) (.cons (.var 1) .nil))) [some (dI rs), some (dW bs), some (dI [0]), none, none] = .ok (((rs.map D.int).zip (bs.map way)).map fun p => D.tup [p.1, p.2], [some (dI rs), some (dW bs), some (dI [0]), none, none]) := by
    rw [it_id]; simp -implicitDefEqProofs (disch := omega) only [qm_cst, qm_var, qm_glo, m_kV, qm_prim, m_kPrim, qm_bop, qm_ife, m_kIfe, m_kIfeT, m_kIfeF, qm_lst, qm_tup, m_kLst, m_kTup, qm_dct, qm_chain, m_kCh1, m_kCh2, m_kCh3T, m_kCh3F, m_kCh4, qm_call, m_kCall, m_kRet, m_kRetX, qm_callio, m_kIo0, m_kIo1, m_kIo2L, m_kIo2I, m_kRio, m_callq', m_kQ1, m_kQ2, m_kQ3, m_callz', m_kZ1, m_kZ2b, m_kZ2i, m_evs0, m_evs1, m_kS1, m_kC, m_o0, m_ovar, m_kV1, m_kV2, m_kV3, m_ocst, m_oglo, m_oprim, m_obop, m_oife, m_olst, m_otup, m_odct, m_ochain, m_ocall, m_ocallio, m_ocallq, m_ocallz, m_ocomp, m_kO1, m_b1, m_b2, m_kB1, m_kBtt, m_kBff, m_kBtf, m_kBft, m_f0, m_f1, m_kF1, m_kF2t, m_kF2f, m_over, m_kOver, m_range, m_kRange, m_enum, m_kEnum, m_zip, m_kZip, m_zips, m_kZips, m_kXs, m_r0, m_r1, m_seqN, m_seqR, m_seqB, m_seqC, m_asg, m_kAsg, m_asgT, m_kAsgT, m_kEnv, m_par, m_kPar, m_setix, m_kSt1, m_kSt2, m_kSt3, m_kSt4, m_kPut, m_app, m_kAp1L, m_kAp1I, m_kAp2, m_kAp3, m_ins, m_kIn1L, m_kIn1I, m_kIn2, m_kIn3, m_kIn4, m_spoil, m_kSpo, m_exp, m_kExp, m_ite, m_kIte, m_kIttT, m_kIttF, m_for, m_kFor, m_ret, m_kRt, m_retv, m_kRv, m_pass, m_brk, m_cnt, m_turnN, m_turnC, m_turnR, m_turnB, m_some, m_eltT, m_eltF, getV_0, getV_s, set_0, set_s, truth_b, truth_i, truth_n, zipf_0, zipf_s, tg_1, tg_2, tg_3, wipe_0, wipe_s,
    isTyL, isTyI, isTy, pis_int, pis_bool, pis_non, pis_str, pis_list, pis_tup, pis_dict, p_add, p_sub, p_neg, p_lt, p_le, p_gt, p_ge, p_eqi, p_nei, p_eqb, p_neb, p_eqs, p_nes, p_notb, p_isN, p_isnN, p_len, p_lent, p_lenI, p_int, p_intb, p_bitlen, p_abs, p_max2, p_min2, p_rev, p_revI, p_tupof, p_listof, p_sumI, p_allb, p_anyb, p_idx0, p_idx1, p_idx2,
    items_L, items_I, rtv_rt, rtio_rt, rtio_nx, Bool.not_true, Bool.not_false, Bool.false_eq_true, Bool.true_eq_false, ↓reduceIte, if_true, if_false, beq_self_eq_true, bne_self_eq_false, decide_true, decide_false, hz, id]
  obtain ⟨r, e, u, v, hr⟩ := forLoop_inv (Tg.tup [3, 4]).set (fun r => runs GG c wf f17_b0 r) (fun j ρ => ∃ u v : Option D, ρ = [some (dI rs), some (dW bs), some (dI (jN (steps rs bs) j)), u, v]) (((rs.map D.int).zip (bs.map way)).map fun p => D.tup [p.1, p.2]) 0 [some (dI rs), some (dW bs), some (dI [0]), none, none] ⟨none, none, rfl⟩ (by
    rintro j d _ hj ⟨u, v, rfl⟩
    obtain ⟨hlt, b, rfl, hg⟩ := items_at h hj
    refine ⟨[some (dI rs), some (dW bs), some (dI (jN (steps rs bs) (j + 1))), some (.int (gi rs j)), some (way b)], ?_, _, _, by rw [Nat.zero_add]⟩
    rw [turnF_eq rfl, Nat.zero_add]
    have hn := jN_len (steps rs bs) j
    have q : ∀ y : Int, prim .add [dI (jN (steps rs bs) j), .list [.int y]] = .ok (dI (jN (steps rs bs) j ++ [y])) := fun y => p_addI _ [y] (by simp; omega)
    cases b with
    | true => simp -implicitDefEqProofs (disch := omega) only [f17_b0, qm_cst, qm_var, qm_glo, m_kV, qm_prim, m_kPrim, qm_bop, qm_ife, m_kIfe, m_kIfeT, m_kIfeF, qm_lst, qm_tup, m_kLst, m_kTup, qm_dct, qm_chain, m_kCh1, m_kCh2, m_kCh3T, m_kCh3F, m_kCh4, qm_call, m_kCall, m_kRet, m_kRetX, qm_callio, m_kIo0, m_kIo1, m_kIo2L, m_kIo2I, m_kRio, m_callq', m_kQ1, m_kQ2, m_kQ3, m_callz', m_kZ1, m_kZ2b, m_kZ2i, m_evs0, m_evs1, m_kS1, m_kC, m_o0, m_ovar, m_kV1, m_kV2, m_kV3, m_ocst, m_oglo, m_oprim, m_obop, m_oife, m_olst, m_otup, m_odct, m_ochain, m_ocall, m_ocallio, m_ocallq, m_ocallz, m_ocomp, m_kO1, m_b1, m_b2, m_kB1, m_kBtt, m_kBff, m_kBtf, m_kBft, m_f0, m_f1, m_kF1, m_kF2t, m_kF2f, m_over, m_kOver, m_range, m_kRange, m_enum, m_kEnum, m_zip, m_kZip, m_zips, m_kZips, m_kXs, m_r0, m_r1, m_seqN, m_seqR, m_seqB, m_seqC, m_asg, m_kAsg, m_asgT, m_kAsgT, m_kEnv, m_par, m_kPar, m_setix, m_kSt1, m_kSt2, m_kSt3, m_kSt4, m_kPut, m_app, m_kAp1L, m_kAp1I, m_kAp2, m_kAp3, m_ins, m_kIn1L, m_kIn1I, m_kIn2, m_kIn3, m_kIn4, m_spoil, m_kSpo, m_exp, m_kExp, m_ite, m_kIte, m_kIttT, m_kIttF, m_for, m_kFor, m_ret, m_kRt, m_retv, m_kRv, m_pass, m_brk, m_cnt, m_turnN, m_turnC, m_turnR, m_turnB, m_some, m_eltT, m_eltF, getV_0, getV_s, set_0, set_s, truth_b, truth_i, truth_n, zipf_0, zipf_s, tg_1, tg_2, tg_3, wipe_0, wipe_s,
    isTyL, isTyI, isTy, pis_int, pis_bool, pis_non, pis_str, pis_list, pis_tup, pis_dict, p_add, p_sub, p_neg, p_lt, p_le, p_gt, p_ge, p_eqi, p_nei, p_eqb, p_neb, p_eqs, p_nes, p_notb, p_isN, p_isnN, p_len, p_lent, p_lenI, p_int, p_intb, p_bitlen, p_abs, p_max2, p_min2, p_rev, p_revI, p_tupof, p_listof, p_sumI, p_allb, p_anyb, p_idx0, p_idx1, p_idx2,
    items_L, items_I, rtv_rt, rtio_rt, rtio_nx, Bool.not_true, Bool.not_false, Bool.false_eq_true, Bool.true_eq_false, ↓reduceIte, if_true, if_false, beq_self_eq_true, bne_self_eq_false, decide_true, decide_false, way_eq, p_lastI' _ (jN_ne (steps rs bs) j), q, jN, hg]
    | false => simp -implicitDefEqProofs (disch := omega) only [f17_b0, qm_cst, qm_var, qm_glo, m_kV, qm_prim, m_kPrim, qm_bop, qm_ife, m_kIfe, m_kIfeT, m_kIfeF, qm_lst, qm_tup, m_kLst, m_kTup, qm_dct, qm_chain, m_kCh1, m_kCh2, m_kCh3T, m_kCh3F, m_kCh4, qm_call, m_kCall, m_kRet, m_kRetX, qm_callio, m_kIo0, m_kIo1, m_kIo2L, m_kIo2I, m_kRio, m_callq', m_kQ1, m_kQ2, m_kQ3, m_callz', m_kZ1, m_kZ2b, m_kZ2i, m_evs0, m_evs1, m_kS1, m_kC, m_o0, m_ovar, m_kV1, m_kV2, m_kV3, m_ocst, m_oglo, m_oprim, m_obop, m_oife, m_olst, m_otup, m_odct, m_ochain, m_ocall, m_ocallio, m_ocallq, m_ocallz, m_ocomp, m_kO1, m_b1, m_b2, m_kB1, m_kBtt, m_kBff, m_kBtf, m_kBft, m_f0, m_f1, m_kF1, m_kF2t, m_kF2f, m_over, m_kOver, m_range, m_kRange, m_enum, m_kEnum, m_zip, m_kZip, m_zips, m_kZips, m_kXs, m_r0, m_r1, m_seqN, m_seqR, m_seqB, m_seqC, m_asg, m_kAsg, m_asgT, m_kAsgT, m_kEnv, m_par, m_kPar, m_setix, m_kSt1, m_kSt2, m_kSt3, m_kSt4, m_kPut, m_app, m_kAp1L, m_kAp1I, m_kAp2, m_kAp3, m_ins, m_kIn1L, m_kIn1I, m_kIn2, m_kIn3, m_kIn4, m_spoil, m_kSpo, m_exp, m_kExp, m_ite, m_kIte, m_kIttT, m_kIttF, m_for, m_kFor, m_ret, m_kRt, m_retv, m_kRv, m_pass, m_brk, m_cnt, m_turnN, m_turnC, m_turnR, m_turnB, m_some, m_eltT, m_eltF, getV_0, getV_s, set_0, set_s, truth_b, truth_i, truth_n, zipf_0, zipf_s, tg_1, tg_2, tg_3, wipe_0, wipe_s,
    isTyL, isTyI, isTy, pis_int, pis_bool, pis_non, pis_str, pis_list, pis_tup, pis_dict, p_add, p_sub, p_neg, p_lt, p_le, p_gt, p_ge, p_eqi, p_nei, p_eqb, p_neb, p_eqs, p_nes, p_notb, p_isN, p_isnN, p_len, p_lent, p_lenI, p_int, p_intb, p_bitlen, p_abs, p_max2, p_min2, p_rev, p_revI, p_tupof, p_listof, p_sumI, p_allb, p_anyb, p_idx0, p_idx1, p_idx2,
    items_L, items_I, rtv_rt, rtio_rt, rtio_nx, Bool.not_true, Bool.not_false, Bool.false_eq_true, Bool.true_eq_false, ↓reduceIte, if_true, if_false, beq_self_eq_true, bne_self_eq_false, decide_true, decide_false, way_eq, p_lastI' _ (jN_ne (steps rs bs) j), q, jN, hg])
  subst hr
  refine ⟨u, v, ?_⟩
  unfold f17_l0
  rw [run_for, hi, R.out_ok, e]
  have : 0 + (((rs.map D.int).zip (bs.map way)).map fun p => D.tup [p.1, p.2]).length = (steps rs bs).length := by rw [steps_len h]; simp; omega
  rw [this]; rfl
theorem law_joints {rs : List Int} {bs : List Bool} (hl : rs.length ≤ 100) (h : bs.length = rs.length) (n : Nat) : callD PP GG wf (n + 1) 17 [dI rs, dW bs] = .ok (dI (joints (steps rs bs)), none) := by
  obtain ⟨u, v, e⟩ := l17_0 (wf := wf) hl h (callD PP GG wf n)
  have h0 : D.list [.int 0] = dI [0] := rfl
  refine callD_v (fd := f17) (ρ := [some (dI rs), some (dW bs), none, none, none]) rfl rfl rfl rfl (.inl rfl) ?_
  rw [runs_aR]
  simp -implicitDefEqProofs (disch := omega) only [f17, qm_cst, qm_var, qm_glo, m_kV, qm_prim, m_kPrim, qm_bop, qm_ife, m_kIfe, m_kIfeT, m_kIfeF, qm_lst, qm_tup, m_kLst, m_kTup, qm_dct, qm_chain, m_kCh1, m_kCh2, m_kCh3T, m_kCh3F, m_kCh4, qm_call, m_kCall, m_kRet, m_kRetX, qm_callio, m_kIo0, m_kIo1, m_kIo2L, m_kIo2I, m_kRio, m_callq', m_kQ1, m_kQ2, m_kQ3, m_callz', m_kZ1, m_kZ2b, m_kZ2i, m_evs0, m_evs1, m_kS1, m_kC, m_o0, m_ovar, m_kV1, m_kV2, m_kV3, m_ocst, m_oglo, m_oprim, m_obop, m_oife, m_olst, m_otup, m_odct, m_ochain, m_ocall, m_ocallio, m_ocallq, m_ocallz, m_ocomp, m_kO1, m_b1, m_b2, m_kB1, m_kBtt, m_kBff, m_kBtf, m_kBft, m_f0, m_f1, m_kF1, m_kF2t, m_kF2f, m_over, m_kOver, m_range, m_kRange, m_enum, m_kEnum, m_zip, m_kZip, m_zips, m_kZips, m_kXs, m_r0, m_r1, m_seqN, m_seqR, m_seqB, m_seqC, m_asg, m_kAsg, m_asgT, m_kAsgT, m_kEnv, m_par, m_kPar, m_setix, m_kSt1, m_kSt2, m_kSt3, m_kSt4, m_kPut, m_app, m_kAp1L, m_kAp1I, m_kAp2, m_kAp3, m_ins, m_kIn1L, m_kIn1I, m_kIn2, m_kIn3, m_kIn4, m_spoil, m_kSpo, m_exp, m_kExp, m_ite, m_kIte, m_kIttT, m_kIttF, m_for, m_kFor, m_ret, m_kRt, m_retv, m_kRv, m_pass, m_brk, m_cnt, m_turnN, m_turnC, m_turnR, m_turnB, m_some, m_eltT, m_eltF, getV_0, getV_s, set_0, set_s, truth_b, truth_i, truth_n, zipf_0, zipf_s, tg_1, tg_2, tg_3, wipe_0, wipe_s,
    isTyL, isTyI, isTy, pis_int, pis_bool, pis_non, pis_str, pis_list, pis_tup, pis_dict, p_add, p_sub, p_neg, p_lt, p_le, p_gt, p_ge, p_eqi, p_nei, p_eqb, p_neb, p_eqs, p_nes, p_notb, p_isN, p_isnN, p_len, p_lent, p_lenI, p_int, p_intb, p_bitlen, p_abs, p_max2, p_min2, p_rev, p_revI, p_tupof, p_listof, p_sumI, p_allb, p_anyb, p_idx0, p_idx1, p_idx2,
    items_L, items_I, rtv_rt, rtio_rt, rtio_nx, Bool.not_true, Bool.not_false, Bool.false_eq_true, Bool.true_eq_false, ↓reduceIte, if_true, if_false, beq_self_eq_true, bne_self_eq_false, decide_true, decide_false, h0, aT_of e]
def mx : List Int → Int
  | [] => 0
  | x :: xs => xs.foldl max x
def mn : List Int → Int
  | [] => 0
  | x :: xs => xs.foldl min x
theorem p_maxI (xs : List Int) (h : xs ≠ []) : prim .max1 [dI xs] = .ok (.int (mx xs)) := by
  cases xs with
  | nil => exact absurd rfl h
  | cons x xs =>
    show scOk .max1 (match intsD ((x :: xs).map D.int) with | some ns => (match maxI ns with | some m => .ok (.int m) | none => .bad) | none => .bad) = _
    rw [intsD_map]; rfl
theorem p_minI (xs : List Int) (h : xs ≠ []) : prim .min1 [dI xs] = .ok (.int (mn xs)) := by
  cases xs with
  | nil => exact absurd rfl h
  | cons x xs =>
    show scOk .min1 (match intsD ((x :: xs).map D.int) with | some ns => (match minI ns with | some m => .ok (.int m) | none => .bad) | none => .bad) = _
    rw [intsD_map]; rfl
def cas (st : List Int) : Int := mx (joints st) - mn (joints st)
theorem case_in {rs : List Int} {bs : List Bool} (hl : rs.length ≤ 100) (h : bs.length = rs.length) (n : Nat) : callD PP GG wf (n + 2) 7 [dI rs, dW bs] = .ok (.int (cas (steps rs bs)), none) := by
  have e := joints_in (wf := wf) hl h n
  have q1 := p_maxI (joints (steps rs bs)) (jN_ne _ _)
  have q2 := p_minI (joints (steps rs bs)) (jN_ne _ _)
  refine callD_v (fd := f7) (ρ := [some (dI rs), some (dW bs), none]) rfl rfl rfl rfl (.inr rfl) ?_
  rw [runs_aR]
  simp -implicitDefEqProofs (disch := omega) only [f7, qm_cst, qm_var, qm_glo, m_kV, qm_prim, m_kPrim, qm_bop, qm_ife, m_kIfe, m_kIfeT, m_kIfeF, qm_lst, qm_tup, m_kLst, m_kTup, qm_dct, qm_chain, m_kCh1, m_kCh2, m_kCh3T, m_kCh3F, m_kCh4, qm_call, m_kCall, m_kRet, m_kRetX, qm_callio, m_kIo0, m_kIo1, m_kIo2L, m_kIo2I, m_kRio, m_callq', m_kQ1, m_kQ2, m_kQ3, m_callz', m_kZ1, m_kZ2b, m_kZ2i, m_evs0, m_evs1, m_kS1, m_kC, m_o0, m_ovar, m_kV1, m_kV2, m_kV3, m_ocst, m_oglo, m_oprim, m_obop, m_oife, m_olst, m_otup, m_odct, m_ochain, m_ocall, m_ocallio, m_ocallq, m_ocallz, m_ocomp, m_kO1, m_b1, m_b2, m_kB1, m_kBtt, m_kBff, m_kBtf, m_kBft, m_f0, m_f1, m_kF1, m_kF2t, m_kF2f, m_over, m_kOver, m_range, m_kRange, m_enum, m_kEnum, m_zip, m_kZip, m_zips, m_kZips, m_kXs, m_r0, m_r1, m_seqN, m_seqR, m_seqB, m_seqC, m_asg, m_kAsg, m_asgT, m_kAsgT, m_kEnv, m_par, m_kPar, m_setix, m_kSt1, m_kSt2, m_kSt3, m_kSt4, m_kPut, m_app, m_kAp1L, m_kAp1I, m_kAp2, m_kAp3, m_ins, m_kIn1L, m_kIn1I, m_kIn2, m_kIn3, m_kIn4, m_spoil, m_kSpo, m_exp, m_kExp, m_ite, m_kIte, m_kIttT, m_kIttF, m_for, m_kFor, m_ret, m_kRt, m_retv, m_kRv, m_pass, m_brk, m_cnt, m_turnN, m_turnC, m_turnR, m_turnB, m_some, m_eltT, m_eltF, getV_0, getV_s, set_0, set_s, truth_b, truth_i, truth_n, zipf_0, zipf_s, tg_1, tg_2, tg_3, wipe_0, wipe_s,
    isTyL, isTyI, isTy, pis_int, pis_bool, pis_non, pis_str, pis_list, pis_tup, pis_dict, p_add, p_sub, p_neg, p_lt, p_le, p_gt, p_ge, p_eqi, p_nei, p_eqb, p_neb, p_eqs, p_nes, p_notb, p_isN, p_isnN, p_len, p_lent, p_lenI, p_int, p_intb, p_bitlen, p_abs, p_max2, p_min2, p_rev, p_revI, p_tupof, p_listof, p_sumI, p_allb, p_anyb, p_idx0, p_idx1, p_idx2,
    items_L, items_I, rtv_rt, rtio_rt, rtio_nx, Bool.not_true, Bool.not_false, Bool.false_eq_true, Bool.true_eq_false, ↓reduceIte, if_true, if_false, beq_self_eq_true, bne_self_eq_false, decide_true, decide_false, e, q1, q2, cas]
theorem law_needed {rs : List Int} {bs : List Bool} (hl : rs.length ≤ 100) (h : bs.length = rs.length) (n : Nat) : callD PP GG wf (n + 2) 18 [dI rs, dW bs] = .ok (.int (cas (steps rs bs)), none) := by
  have e := law_joints (wf := wf) hl h n
  have q1 := p_maxI (joints (steps rs bs)) (jN_ne _ _)
  have q2 := p_minI (joints (steps rs bs)) (jN_ne _ _)
  refine callD_v (fd := f18) (ρ := [some (dI rs), some (dW bs), none]) rfl rfl rfl rfl (.inr rfl) ?_
  rw [runs_aR]
  simp -implicitDefEqProofs (disch := omega) only [f18, qm_cst, qm_var, qm_glo, m_kV, qm_prim, m_kPrim, qm_bop, qm_ife, m_kIfe, m_kIfeT, m_kIfeF, qm_lst, qm_tup, m_kLst, m_kTup, qm_dct, qm_chain, m_kCh1, m_kCh2, m_kCh3T, m_kCh3F, m_kCh4, qm_call, m_kCall, m_kRet, m_kRetX, qm_callio, m_kIo0, m_kIo1, m_kIo2L, m_kIo2I, m_kRio, m_callq', m_kQ1, m_kQ2, m_kQ3, m_callz', m_kZ1, m_kZ2b, m_kZ2i, m_evs0, m_evs1, m_kS1, m_kC, m_o0, m_ovar, m_kV1, m_kV2, m_kV3, m_ocst, m_oglo, m_oprim, m_obop, m_oife, m_olst, m_otup, m_odct, m_ochain, m_ocall, m_ocallio, m_ocallq, m_ocallz, m_ocomp, m_kO1, m_b1, m_b2, m_kB1, m_kBtt, m_kBff, m_kBtf, m_kBft, m_f0, m_f1, m_kF1, m_kF2t, m_kF2f, m_over, m_kOver, m_range, m_kRange, m_enum, m_kEnum, m_zip, m_kZip, m_zips, m_kZips, m_kXs, m_r0, m_r1, m_seqN, m_seqR, m_seqB, m_seqC, m_asg, m_kAsg, m_asgT, m_kAsgT, m_kEnv, m_par, m_kPar, m_setix, m_kSt1, m_kSt2, m_kSt3, m_kSt4, m_kPut, m_app, m_kAp1L, m_kAp1I, m_kAp2, m_kAp3, m_ins, m_kIn1L, m_kIn1I, m_kIn2, m_kIn3, m_kIn4, m_spoil, m_kSpo, m_exp, m_kExp, m_ite, m_kIte, m_kIttT, m_kIttF, m_for, m_kFor, m_ret, m_kRt, m_retv, m_kRv, m_pass, m_brk, m_cnt, m_turnN, m_turnC, m_turnR, m_turnB, m_some, m_eltT, m_eltF, getV_0, getV_s, set_0, set_s, truth_b, truth_i, truth_n, zipf_0, zipf_s, tg_1, tg_2, tg_3, wipe_0, wipe_s,
    isTyL, isTyI, isTy, pis_int, pis_bool, pis_non, pis_str, pis_list, pis_tup, pis_dict, p_add, p_sub, p_neg, p_lt, p_le, p_gt, p_ge, p_eqi, p_nei, p_eqb, p_neb, p_eqs, p_nes, p_notb, p_isN, p_isnN, p_len, p_lent, p_lenI, p_int, p_intb, p_bitlen, p_abs, p_max2, p_min2, p_rev, p_revI, p_tupof, p_listof, p_sumI, p_allb, p_anyb, p_idx0, p_idx1, p_idx2,
    items_L, items_I, rtv_rt, rtio_rt, rtio_nx, Bool.not_true, Bool.not_false, Bool.false_eq_true, Bool.true_eq_false, ↓reduceIte, if_true, if_false, beq_self_eq_true, bne_self_eq_false, decide_true, decide_false, e, q1, q2, cas]
theorem joints_of {rs : List Int} {bs : List Bool} (hr : Rul rs) (h : Way rs bs) (n : Nat) : callD PP GG wf (n + 5) 8 [dI rs, dW bs] = .ok (dI (joints (steps rs bs)), none) := by
  have e1 := check_laid (wf := wf) hr h n
  have e2 := joints_in (wf := wf) (by have := hr.2.2; omega) h.1 (n + 3)
  refine callD_v (fd := f8) (ρ := [some (dI rs), some (dW bs)]) rfl rfl rfl rfl (.inl rfl) ?_
  rw [runs_aR]
  simp -implicitDefEqProofs (disch := omega) only [f8, qm_cst, qm_var, qm_glo, m_kV, qm_prim, m_kPrim, qm_bop, qm_ife, m_kIfe, m_kIfeT, m_kIfeF, qm_lst, qm_tup, m_kLst, m_kTup, qm_dct, qm_chain, m_kCh1, m_kCh2, m_kCh3T, m_kCh3F, m_kCh4, qm_call, m_kCall, m_kRet, m_kRetX, qm_callio, m_kIo0, m_kIo1, m_kIo2L, m_kIo2I, m_kRio, m_callq', m_kQ1, m_kQ2, m_kQ3, m_callz', m_kZ1, m_kZ2b, m_kZ2i, m_evs0, m_evs1, m_kS1, m_kC, m_o0, m_ovar, m_kV1, m_kV2, m_kV3, m_ocst, m_oglo, m_oprim, m_obop, m_oife, m_olst, m_otup, m_odct, m_ochain, m_ocall, m_ocallio, m_ocallq, m_ocallz, m_ocomp, m_kO1, m_b1, m_b2, m_kB1, m_kBtt, m_kBff, m_kBtf, m_kBft, m_f0, m_f1, m_kF1, m_kF2t, m_kF2f, m_over, m_kOver, m_range, m_kRange, m_enum, m_kEnum, m_zip, m_kZip, m_zips, m_kZips, m_kXs, m_r0, m_r1, m_seqN, m_seqR, m_seqB, m_seqC, m_asg, m_kAsg, m_asgT, m_kAsgT, m_kEnv, m_par, m_kPar, m_setix, m_kSt1, m_kSt2, m_kSt3, m_kSt4, m_kPut, m_app, m_kAp1L, m_kAp1I, m_kAp2, m_kAp3, m_ins, m_kIn1L, m_kIn1I, m_kIn2, m_kIn3, m_kIn4, m_spoil, m_kSpo, m_exp, m_kExp, m_ite, m_kIte, m_kIttT, m_kIttF, m_for, m_kFor, m_ret, m_kRt, m_retv, m_kRv, m_pass, m_brk, m_cnt, m_turnN, m_turnC, m_turnR, m_turnB, m_some, m_eltT, m_eltF, getV_0, getV_s, set_0, set_s, truth_b, truth_i, truth_n, zipf_0, zipf_s, tg_1, tg_2, tg_3, wipe_0, wipe_s,
    isTyL, isTyI, isTy, pis_int, pis_bool, pis_non, pis_str, pis_list, pis_tup, pis_dict, p_add, p_sub, p_neg, p_lt, p_le, p_gt, p_ge, p_eqi, p_nei, p_eqb, p_neb, p_eqs, p_nes, p_notb, p_isN, p_isnN, p_len, p_lent, p_lenI, p_int, p_intb, p_bitlen, p_abs, p_max2, p_min2, p_rev, p_revI, p_tupof, p_listof, p_sumI, p_allb, p_anyb, p_idx0, p_idx1, p_idx2,
    items_L, items_I, rtv_rt, rtio_rt, rtio_nx, Bool.not_true, Bool.not_false, Bool.false_eq_true, Bool.true_eq_false, ↓reduceIte, if_true, if_false, beq_self_eq_true, bne_self_eq_false, decide_true, decide_false, e1, e2]
theorem joints_ofK {rs : List Int} {bs : List Bool} (hr : Rul rs) (h : Way rs bs) (n : Nat) : callD PP GG wf (n + 5) 22 [dW bs, dI rs] = .ok (dI (joints (steps rs bs)), none) := by
  have e1 := check_laid (wf := wf) hr h n
  have e2 := joints_in (wf := wf) (by have := hr.2.2; omega) h.1 (n + 3)
  refine callD_v (fd := f22) (ρ := [some (dW bs), some (dI rs)]) rfl rfl rfl rfl (.inl rfl) ?_
  rw [runs_aR]
  simp -implicitDefEqProofs (disch := omega) only [f22, qm_cst, qm_var, qm_glo, m_kV, qm_prim, m_kPrim, qm_bop, qm_ife, m_kIfe, m_kIfeT, m_kIfeF, qm_lst, qm_tup, m_kLst, m_kTup, qm_dct, qm_chain, m_kCh1, m_kCh2, m_kCh3T, m_kCh3F, m_kCh4, qm_call, m_kCall, m_kRet, m_kRetX, qm_callio, m_kIo0, m_kIo1, m_kIo2L, m_kIo2I, m_kRio, m_callq', m_kQ1, m_kQ2, m_kQ3, m_callz', m_kZ1, m_kZ2b, m_kZ2i, m_evs0, m_evs1, m_kS1, m_kC, m_o0, m_ovar, m_kV1, m_kV2, m_kV3, m_ocst, m_oglo, m_oprim, m_obop, m_oife, m_olst, m_otup, m_odct, m_ochain, m_ocall, m_ocallio, m_ocallq, m_ocallz, m_ocomp, m_kO1, m_b1, m_b2, m_kB1, m_kBtt, m_kBff, m_kBtf, m_kBft, m_f0, m_f1, m_kF1, m_kF2t, m_kF2f, m_over, m_kOver, m_range, m_kRange, m_enum, m_kEnum, m_zip, m_kZip, m_zips, m_kZips, m_kXs, m_r0, m_r1, m_seqN, m_seqR, m_seqB, m_seqC, m_asg, m_kAsg, m_asgT, m_kAsgT, m_kEnv, m_par, m_kPar, m_setix, m_kSt1, m_kSt2, m_kSt3, m_kSt4, m_kPut, m_app, m_kAp1L, m_kAp1I, m_kAp2, m_kAp3, m_ins, m_kIn1L, m_kIn1I, m_kIn2, m_kIn3, m_kIn4, m_spoil, m_kSpo, m_exp, m_kExp, m_ite, m_kIte, m_kIttT, m_kIttF, m_for, m_kFor, m_ret, m_kRt, m_retv, m_kRv, m_pass, m_brk, m_cnt, m_turnN, m_turnC, m_turnR, m_turnB, m_some, m_eltT, m_eltF, getV_0, getV_s, set_0, set_s, truth_b, truth_i, truth_n, zipf_0, zipf_s, tg_1, tg_2, tg_3, wipe_0, wipe_s,
    isTyL, isTyI, isTy, pis_int, pis_bool, pis_non, pis_str, pis_list, pis_tup, pis_dict, p_add, p_sub, p_neg, p_lt, p_le, p_gt, p_ge, p_eqi, p_nei, p_eqb, p_neb, p_eqs, p_nes, p_notb, p_isN, p_isnN, p_len, p_lent, p_lenI, p_int, p_intb, p_bitlen, p_abs, p_max2, p_min2, p_rev, p_revI, p_tupof, p_listof, p_sumI, p_allb, p_anyb, p_idx0, p_idx1, p_idx2,
    items_L, items_I, rtv_rt, rtio_rt, rtio_nx, Bool.not_true, Bool.not_false, Bool.false_eq_true, Bool.true_eq_false, ↓reduceIte, if_true, if_false, beq_self_eq_true, bne_self_eq_false, decide_true, decide_false, e1, e2]
theorem case_of {rs : List Int} {bs : List Bool} (hr : Rul rs) (h : Way rs bs) (n : Nat) : callD PP GG wf (n + 5) 9 [dI rs, dW bs] = .ok (.int (cas (steps rs bs)), none) := by
  have e1 := check_laid (wf := wf) hr h n
  have e2 := case_in (wf := wf) (by have := hr.2.2; omega) h.1 (n + 2)
  refine callD_v (fd := f9) (ρ := [some (dI rs), some (dW bs)]) rfl rfl rfl rfl (.inr rfl) ?_
  rw [runs_aR]
  simp -implicitDefEqProofs (disch := omega) only [f9, qm_cst, qm_var, qm_glo, m_kV, qm_prim, m_kPrim, qm_bop, qm_ife, m_kIfe, m_kIfeT, m_kIfeF, qm_lst, qm_tup, m_kLst, m_kTup, qm_dct, qm_chain, m_kCh1, m_kCh2, m_kCh3T, m_kCh3F, m_kCh4, qm_call, m_kCall, m_kRet, m_kRetX, qm_callio, m_kIo0, m_kIo1, m_kIo2L, m_kIo2I, m_kRio, m_callq', m_kQ1, m_kQ2, m_kQ3, m_callz', m_kZ1, m_kZ2b, m_kZ2i, m_evs0, m_evs1, m_kS1, m_kC, m_o0, m_ovar, m_kV1, m_kV2, m_kV3, m_ocst, m_oglo, m_oprim, m_obop, m_oife, m_olst, m_otup, m_odct, m_ochain, m_ocall, m_ocallio, m_ocallq, m_ocallz, m_ocomp, m_kO1, m_b1, m_b2, m_kB1, m_kBtt, m_kBff, m_kBtf, m_kBft, m_f0, m_f1, m_kF1, m_kF2t, m_kF2f, m_over, m_kOver, m_range, m_kRange, m_enum, m_kEnum, m_zip, m_kZip, m_zips, m_kZips, m_kXs, m_r0, m_r1, m_seqN, m_seqR, m_seqB, m_seqC, m_asg, m_kAsg, m_asgT, m_kAsgT, m_kEnv, m_par, m_kPar, m_setix, m_kSt1, m_kSt2, m_kSt3, m_kSt4, m_kPut, m_app, m_kAp1L, m_kAp1I, m_kAp2, m_kAp3, m_ins, m_kIn1L, m_kIn1I, m_kIn2, m_kIn3, m_kIn4, m_spoil, m_kSpo, m_exp, m_kExp, m_ite, m_kIte, m_kIttT, m_kIttF, m_for, m_kFor, m_ret, m_kRt, m_retv, m_kRv, m_pass, m_brk, m_cnt, m_turnN, m_turnC, m_turnR, m_turnB, m_some, m_eltT, m_eltF, getV_0, getV_s, set_0, set_s, truth_b, truth_i, truth_n, zipf_0, zipf_s, tg_1, tg_2, tg_3, wipe_0, wipe_s,
    isTyL, isTyI, isTy, pis_int, pis_bool, pis_non, pis_str, pis_list, pis_tup, pis_dict, p_add, p_sub, p_neg, p_lt, p_le, p_gt, p_ge, p_eqi, p_nei, p_eqb, p_neb, p_eqs, p_nes, p_notb, p_isN, p_isnN, p_len, p_lent, p_lenI, p_int, p_intb, p_bitlen, p_abs, p_max2, p_min2, p_rev, p_revI, p_tupof, p_listof, p_sumI, p_allb, p_anyb, p_idx0, p_idx1, p_idx2,
    items_L, items_I, rtv_rt, rtio_rt, rtio_nx, Bool.not_true, Bool.not_false, Bool.false_eq_true, Bool.true_eq_false, ↓reduceIte, if_true, if_false, beq_self_eq_true, bne_self_eq_false, decide_true, decide_false, e1, e2]
theorem case_ofK {rs : List Int} {bs : List Bool} (hr : Rul rs) (h : Way rs bs) (n : Nat) : callD PP GG wf (n + 5) 23 [dW bs, dI rs] = .ok (.int (cas (steps rs bs)), none) := by
  have e1 := check_laid (wf := wf) hr h n
  have e2 := case_in (wf := wf) (by have := hr.2.2; omega) h.1 (n + 2)
  refine callD_v (fd := f23) (ρ := [some (dW bs), some (dI rs)]) rfl rfl rfl rfl (.inr rfl) ?_
  rw [runs_aR]
  simp -implicitDefEqProofs (disch := omega) only [f23, qm_cst, qm_var, qm_glo, m_kV, qm_prim, m_kPrim, qm_bop, qm_ife, m_kIfe, m_kIfeT, m_kIfeF, qm_lst, qm_tup, m_kLst, m_kTup, qm_dct, qm_chain, m_kCh1, m_kCh2, m_kCh3T, m_kCh3F, m_kCh4, qm_call, m_kCall, m_kRet, m_kRetX, qm_callio, m_kIo0, m_kIo1, m_kIo2L, m_kIo2I, m_kRio, m_callq', m_kQ1, m_kQ2, m_kQ3, m_callz', m_kZ1, m_kZ2b, m_kZ2i, m_evs0, m_evs1, m_kS1, m_kC, m_o0, m_ovar, m_kV1, m_kV2, m_kV3, m_ocst, m_oglo, m_oprim, m_obop, m_oife, m_olst, m_otup, m_odct, m_ochain, m_ocall, m_ocallio, m_ocallq, m_ocallz, m_ocomp, m_kO1, m_b1, m_b2, m_kB1, m_kBtt, m_kBff, m_kBtf, m_kBft, m_f0, m_f1, m_kF1, m_kF2t, m_kF2f, m_over, m_kOver, m_range, m_kRange, m_enum, m_kEnum, m_zip, m_kZip, m_zips, m_kZips, m_kXs, m_r0, m_r1, m_seqN, m_seqR, m_seqB, m_seqC, m_asg, m_kAsg, m_asgT, m_kAsgT, m_kEnv, m_par, m_kPar, m_setix, m_kSt1, m_kSt2, m_kSt3, m_kSt4, m_kPut, m_app, m_kAp1L, m_kAp1I, m_kAp2, m_kAp3, m_ins, m_kIn1L, m_kIn1I, m_kIn2, m_kIn3, m_kIn4, m_spoil, m_kSpo, m_exp, m_kExp, m_ite, m_kIte, m_kIttT, m_kIttF, m_for, m_kFor, m_ret, m_kRt, m_retv, m_kRv, m_pass, m_brk, m_cnt, m_turnN, m_turnC, m_turnR, m_turnB, m_some, m_eltT, m_eltF, getV_0, getV_s, set_0, set_s, truth_b, truth_i, truth_n, zipf_0, zipf_s, tg_1, tg_2, tg_3, wipe_0, wipe_s,
    isTyL, isTyI, isTy, pis_int, pis_bool, pis_non, pis_str, pis_list, pis_tup, pis_dict, p_add, p_sub, p_neg, p_lt, p_le, p_gt, p_ge, p_eqi, p_nei, p_eqb, p_neb, p_eqs, p_nes, p_notb, p_isN, p_isnN, p_len, p_lent, p_lenI, p_int, p_intb, p_bitlen, p_abs, p_max2, p_min2, p_rev, p_revI, p_tupof, p_listof, p_sumI, p_allb, p_anyb, p_idx0, p_idx1, p_idx2,
    items_L, items_I, rtv_rt, rtio_rt, rtio_nx, Bool.not_true, Bool.not_false, Bool.false_eq_true, Bool.true_eq_false, ↓reduceIte, if_true, if_false, beq_self_eq_true, bne_self_eq_false, decide_true, decide_false, e1, e2]
end
end Law
end
section
set_option maxRecDepth 100000
set_option maxHeartbeats 4000000
namespace Law
open PySem L2 Fh
/-! ### the law's own equality -/
mutual
def smD : Nat → D → Bool
  | _, .int _ => true
  | _, .bool _ => true
  | _, .str _ => true
  | _, .non => true
  | k + 1, .list xs => decide (xs.length ≤ SZ) && smL k xs
  | k + 1, .tup xs => decide (xs.length ≤ SZ) && smL k xs
  | _, _ => false
def smL : Nat → List D → Bool
  | _, [] => true
  | k, d :: ds => smD k d && smL k ds
end
theorem smL_mem {k : Nat} : ∀ {ds : List D}, smL k ds = true → ∀ d ∈ ds, smD k d = true
  | [], _, d, h => nomatch h
  | x :: xs, h, d, hd => by
    have h' : smD k x = true ∧ smL k xs = true := by simpa [smL] using h
    cases hd with
    | head => exact h'.1
    | tail _ hd => exact smL_mem h'.2 d hd
theorem smL_I (k : Nat) : ∀ xs : List Int, smL k (xs.map D.int) = true
  | [] => by cases k <;> rfl
  | x :: xs => by
    rw [List.map_cons, smL, smL_I k xs]
    cases k <;> rfl
theorem smD_I (k : Nat) (xs : List Int) (h : xs.length ≤ SZ) : smD (k + 1) (dI xs) = true := by
  rw [dI, smD, smL_I, List.length_map, decide_eq_true h]; rfl
theorem zip_self : ∀ xs : List D, (xs.zip xs) = xs.map fun d => (d, d)
  | [] => rfl
  | x :: xs => by rw [List.zip_cons_cons, zip_self xs, List.map_cons]
theorem all_true (xs : List D) : (xs.filterMap fun _ => some (D.bool true)) = (xs.map fun _ => true).map D.bool := by simp
theorem all_true2 (xs : List D) : ((xs.map fun _ => true).all id) = true := by simp
theorem qs2_str (t u : Ty) (i : Str) : prim (.isinst2 t u) [.str i] = .ok (.bool (isTy t (.str i) || isTy u (.str i))) := rfl
theorem qs2_non (t u : Ty) : prim (.isinst2 t u) [.non] = .ok (.bool (isTy t .non || isTy u .non)) := rfl
theorem qs2_tup (t u : Ty) (i : List D) : prim (.isinst2 t u) [.tup i] = .ok (.bool (isTy t (.tup i) || isTy u (.tup i))) := rfl
theorem qisNon (d : D) : prim .isq [d, .non] = .ok (.bool (Fh.isNon d)) := p_isN d
theorem q_eqs (a b : Str) : prim .eq [.str a, .str b] = .ok (.bool (a == b)) := rfl
section
variable {wf : Nat}
theorem same_c1 (xs : List D) (r0 r1 : D) (r2 : Option D) (hz : zipOf [r0, r1] = .ok (xs.map fun d => D.tup [d, d])) (hl : xs.length ≤ SZ) (n : Nat)
    (ih : ∀ d ∈ xs, callD PP GG wf n 15 [d, d] = .ok (.bool true, none)) :
    ev GG (callD PP GG wf n) f15_c1 [some r0, some r1, r2, none, none] = .ok (.list ((xs.map fun _ => true).map D.bool), [some r0, some r1, r2, none, none]) := by
  unfold f15_c1
  have hi : evIt GG (callD PP GG wf n) (.zip (.cons (.var 0) (.cons (.var 1) .nil))) [some r0, some r1, r2, none, none] = .ok (xs.map fun d => D.tup [d, d], [some r0, some r1, r2, none, none]) := by
    rw [it_id]; simp -implicitDefEqProofs (disch := omega) only [qm_cst, qm_var, qm_glo, m_kV, qm_prim, m_kPrim, qm_bop, qm_ife, m_kIfe, m_kIfeT, m_kIfeF, qm_lst, qm_tup, m_kLst, m_kTup, qm_dct, qm_chain, m_kCh1, m_kCh2, m_kCh3T, m_kCh3F, m_kCh4, qm_call, m_kCall, m_kRet, m_kRetX, qm_callio, m_kIo0, m_kIo1, m_kIo2L, m_kIo2I, m_kRio, m_callq', m_kQ1, m_kQ2, m_kQ3, m_callz', m_kZ1, m_kZ2b, m_kZ2i, m_evs0, m_evs1, m_kS1, m_kC, m_o0, m_ovar, m_kV1, m_kV2, m_kV3, m_ocst, m_oglo, m_oprim, m_obop, m_oife, m_olst, m_otup, m_odct, m_ochain, m_ocall, m_ocallio, m_ocallq, m_ocallz, m_ocomp, m_kO1, m_b1, m_b2, m_kB1, m_kBtt, m_kBff, m_kBtf, m_kBft, m_f0, m_f1, m_kF1, m_kF2t, m_kF2f, m_over, m_kOver, m_range, m_kRange, m_enum, m_kEnum, m_zip, m_kZip, m_zips, m_kZips, m_kXs, m_r0, m_r1, m_seqN, m_seqR, m_seqB, m_seqC, m_asg, m_kAsg, m_asgT, m_kAsgT, m_kEnv, m_par, m_kPar, m_setix, m_kSt1, m_kSt2, m_kSt3, m_kSt4, m_kPut, m_app, m_kAp1L, m_kAp1I, m_kAp2, m_kAp3, m_ins, m_kIn1L, m_kIn1I, m_kIn2, m_kIn3, m_kIn4, m_spoil, m_kSpo, m_exp, m_kExp, m_ite, m_kIte, m_kIttT, m_kIttF, m_for, m_kFor, m_ret, m_kRt, m_retv, m_kRv, m_pass, m_brk, m_cnt, m_turnN, m_turnC, m_turnR, m_turnB, m_some, m_eltT, m_eltF, getV_0, getV_s, set_0, set_s, truth_b, truth_i, truth_n, zipf_0, zipf_s, tg_1, tg_2, tg_3, wipe_0, wipe_s,
    isTyL, isTyI, isTy, pis_int, pis_bool, pis_non, pis_str, pis_list, pis_tup, pis_dict, p_add, p_sub, p_neg, p_lt, p_le, p_gt, p_ge, p_eqi, p_nei, p_eqb, p_neb, p_eqs, p_nes, p_notb, p_isN, p_isnN, p_len, p_lent, p_lenI, p_int, p_intb, p_bitlen, p_abs, p_max2, p_min2, p_rev, p_revI, p_tupof, p_listof, p_sumI, p_allb, p_anyb, p_idx0, p_idx1, p_idx2,
    items_L, items_I, rtv_rt, rtio_rt, rtio_nx, Bool.not_true, Bool.not_false, Bool.false_eq_true, Bool.true_eq_false, ↓reduceIte, if_true, if_false, beq_self_eq_true, bne_self_eq_false, decide_true, decide_false, hz, id]
  refine (comp_pure _ _ _ _ _ _ [some r0, some r1, r2, none, none] (xs.map fun d => D.tup [d, d]) (fun _ => some (.bool true)) hi (by simpa using hl) (fun d hd => ?_)).trans (by simp [List.filterMap_map, Function.comp_def])
  obtain ⟨x, hx, rfl⟩ := List.mem_map.mp hd
  have e := ih x hx
  refine ⟨[some r0, some r1, r2, some x, some x], rfl, ?_⟩
  rw [turnC_eq rfl]
  simp -implicitDefEqProofs (disch := omega) only [qm_cst, qm_var, qm_glo, m_kV, qm_prim, m_kPrim, qm_bop, qm_ife, m_kIfe, m_kIfeT, m_kIfeF, qm_lst, qm_tup, m_kLst, m_kTup, qm_dct, qm_chain, m_kCh1, m_kCh2, m_kCh3T, m_kCh3F, m_kCh4, qm_call, m_kCall, m_kRet, m_kRetX, qm_callio, m_kIo0, m_kIo1, m_kIo2L, m_kIo2I, m_kRio, m_callq', m_kQ1, m_kQ2, m_kQ3, m_callz', m_kZ1, m_kZ2b, m_kZ2i, m_evs0, m_evs1, m_kS1, m_kC, m_o0, m_ovar, m_kV1, m_kV2, m_kV3, m_ocst, m_oglo, m_oprim, m_obop, m_oife, m_olst, m_otup, m_odct, m_ochain, m_ocall, m_ocallio, m_ocallq, m_ocallz, m_ocomp, m_kO1, m_b1, m_b2, m_kB1, m_kBtt, m_kBff, m_kBtf, m_kBft, m_f0, m_f1, m_kF1, m_kF2t, m_kF2f, m_over, m_kOver, m_range, m_kRange, m_enum, m_kEnum, m_zip, m_kZip, m_zips, m_kZips, m_kXs, m_r0, m_r1, m_seqN, m_seqR, m_seqB, m_seqC, m_asg, m_kAsg, m_asgT, m_kAsgT, m_kEnv, m_par, m_kPar, m_setix, m_kSt1, m_kSt2, m_kSt3, m_kSt4, m_kPut, m_app, m_kAp1L, m_kAp1I, m_kAp2, m_kAp3, m_ins, m_kIn1L, m_kIn1I, m_kIn2, m_kIn3, m_kIn4, m_spoil, m_kSpo, m_exp, m_kExp, m_ite, m_kIte, m_kIttT, m_kIttF, m_for, m_kFor, m_ret, m_kRt, m_retv, m_kRv, m_pass, m_brk, m_cnt, m_turnN, m_turnC, m_turnR, m_turnB, m_some, m_eltT, m_eltF, getV_0, getV_s, set_0, set_s, truth_b, truth_i, truth_n, zipf_0, zipf_s, tg_1, tg_2, tg_3, wipe_0, wipe_s,
    isTyL, isTyI, isTy, pis_int, pis_bool, pis_non, pis_str, pis_list, pis_tup, pis_dict, p_add, p_sub, p_neg, p_lt, p_le, p_gt, p_ge, p_eqi, p_nei, p_eqb, p_neb, p_eqs, p_nes, p_notb, p_isN, p_isnN, p_len, p_lent, p_lenI, p_int, p_intb, p_bitlen, p_abs, p_max2, p_min2, p_rev, p_revI, p_tupof, p_listof, p_sumI, p_allb, p_anyb, p_idx0, p_idx1, p_idx2,
    items_L, items_I, rtv_rt, rtio_rt, rtio_nx, Bool.not_true, Bool.not_false, Bool.false_eq_true, Bool.true_eq_false, ↓reduceIte, if_true, if_false, beq_self_eq_true, bne_self_eq_false, decide_true, decide_false, e]
theorem same_refl : ∀ (m : Nat) (d : D), smD m d = true → ∀ n, callD PP GG wf (n + m + 1) 15 [d, d] = .ok (.bool true, none) := by
  intro m
  induction m with
  | zero =>
    intro d h n
    refine callD_v (fd := f15) (ρ := [some d, some d, none, none, none]) rfl rfl rfl rfl (.inr rfl) ?_
    rw [runs_aR]
    cases d <;> first | (simp [smD] at h; done) | (simp -implicitDefEqProofs (disch := omega) only [f15, qm_cst, qm_var, qm_glo, m_kV, qm_prim, m_kPrim, qm_bop, qm_ife, m_kIfe, m_kIfeT, m_kIfeF, qm_lst, qm_tup, m_kLst, m_kTup, qm_dct, qm_chain, m_kCh1, m_kCh2, m_kCh3T, m_kCh3F, m_kCh4, qm_call, m_kCall, m_kRet, m_kRetX, qm_callio, m_kIo0, m_kIo1, m_kIo2L, m_kIo2I, m_kRio, m_callq', m_kQ1, m_kQ2, m_kQ3, m_callz', m_kZ1, m_kZ2b, m_kZ2i, m_evs0, m_evs1, m_kS1, m_kC, m_o0, m_ovar, m_kV1, m_kV2, m_kV3, m_ocst, m_oglo, m_oprim, m_obop, m_oife, m_olst, m_otup, m_odct, m_ochain, m_ocall, m_ocallio, m_ocallq, m_ocallz, m_ocomp, m_kO1, m_b1, m_b2, m_kB1, m_kBtt, m_kBff, m_kBtf, m_kBft, m_f0, m_f1, m_kF1, m_kF2t, m_kF2f, m_over, m_kOver, m_range, m_kRange, m_enum, m_kEnum, m_zip, m_kZip, m_zips, m_kZips, m_kXs, m_r0, m_r1, m_seqN, m_seqR, m_seqB, m_seqC, m_asg, m_kAsg, m_asgT, m_kAsgT, m_kEnv, m_par, m_kPar, m_setix, m_kSt1, m_kSt2, m_kSt3, m_kSt4, m_kPut, m_app, m_kAp1L, m_kAp1I, m_kAp2, m_kAp3, m_ins, m_kIn1L, m_kIn1I, m_kIn2, m_kIn3, m_kIn4, m_spoil, m_kSpo, m_exp, m_kExp, m_ite, m_kIte, m_kIttT, m_kIttF, m_for, m_kFor, m_ret, m_kRt, m_retv, m_kRv, m_pass, m_brk, m_cnt, m_turnN, m_turnC, m_turnR, m_turnB, m_some, m_eltT, m_eltF, getV_0, getV_s, set_0, set_s, truth_b, truth_i, truth_n, zipf_0, zipf_s, tg_1, tg_2, tg_3, wipe_0, wipe_s,
    isTyL, isTyI, isTy, pis_int, pis_bool, pis_non, pis_str, pis_list, pis_tup, pis_dict, p_add, p_sub, p_neg, p_lt, p_le, p_gt, p_ge, p_eqi, p_nei, p_eqb, p_neb, p_eqs, p_nes, p_notb, p_isN, p_isnN, p_len, p_lent, p_lenI, p_int, p_intb, p_bitlen, p_abs, p_max2, p_min2, p_rev, p_revI, p_tupof, p_listof, p_sumI, p_allb, p_anyb, p_idx0, p_idx1, p_idx2,
    items_L, items_I, rtv_rt, rtio_rt, rtio_nx, Bool.not_true, Bool.not_false, Bool.false_eq_true, Bool.true_eq_false, ↓reduceIte, if_true, if_false, beq_self_eq_true, bne_self_eq_false, decide_true, decide_false, pis2_int, pis2_bool, qs2_str, qs2_non, Bool.or_false, Fh.isNon, q_eqs])
  | succ m ih =>
    intro d h n
    refine callD_v (fd := f15) (ρ := [some d, some d, none, none, none]) rfl rfl rfl rfl (.inr rfl) ?_
    rw [runs_aR]
    cases d with
    | list xs =>
      have h' : xs.length ≤ SZ ∧ smL m xs = true := by simpa [smD] using h
      have e2 := same_c1 (wf := wf) xs (.list xs) (.list xs) none (by rw [zip_L, zip_self, List.map_map]; rfl) h'.1 (n + (m + 1)) (fun d hd => ih d (smL_mem h'.2 d hd) n)
      simp -implicitDefEqProofs (disch := omega) only [f15, qm_cst, qm_var, qm_glo, m_kV, qm_prim, m_kPrim, qm_bop, qm_ife, m_kIfe, m_kIfeT, m_kIfeF, qm_lst, qm_tup, m_kLst, m_kTup, qm_dct, qm_chain, m_kCh1, m_kCh2, m_kCh3T, m_kCh3F, m_kCh4, qm_call, m_kCall, m_kRet, m_kRetX, qm_callio, m_kIo0, m_kIo1, m_kIo2L, m_kIo2I, m_kRio, m_callq', m_kQ1, m_kQ2, m_kQ3, m_callz', m_kZ1, m_kZ2b, m_kZ2i, m_evs0, m_evs1, m_kS1, m_kC, m_o0, m_ovar, m_kV1, m_kV2, m_kV3, m_ocst, m_oglo, m_oprim, m_obop, m_oife, m_olst, m_otup, m_odct, m_ochain, m_ocall, m_ocallio, m_ocallq, m_ocallz, m_ocomp, m_kO1, m_b1, m_b2, m_kB1, m_kBtt, m_kBff, m_kBtf, m_kBft, m_f0, m_f1, m_kF1, m_kF2t, m_kF2f, m_over, m_kOver, m_range, m_kRange, m_enum, m_kEnum, m_zip, m_kZip, m_zips, m_kZips, m_kXs, m_r0, m_r1, m_seqN, m_seqR, m_seqB, m_seqC, m_asg, m_kAsg, m_asgT, m_kAsgT, m_kEnv, m_par, m_kPar, m_setix, m_kSt1, m_kSt2, m_kSt3, m_kSt4, m_kPut, m_app, m_kAp1L, m_kAp1I, m_kAp2, m_kAp3, m_ins, m_kIn1L, m_kIn1I, m_kIn2, m_kIn3, m_kIn4, m_spoil, m_kSpo, m_exp, m_kExp, m_ite, m_kIte, m_kIttT, m_kIttF, m_for, m_kFor, m_ret, m_kRt, m_retv, m_kRv, m_pass, m_brk, m_cnt, m_turnN, m_turnC, m_turnR, m_turnB, m_some, m_eltT, m_eltF, getV_0, getV_s, set_0, set_s, truth_b, truth_i, truth_n, zipf_0, zipf_s, tg_1, tg_2, tg_3, wipe_0, wipe_s,
    isTyL, isTyI, isTy, pis_int, pis_bool, pis_non, pis_str, pis_list, pis_tup, pis_dict, p_add, p_sub, p_neg, p_lt, p_le, p_gt, p_ge, p_eqi, p_nei, p_eqb, p_neb, p_eqs, p_nes, p_notb, p_isN, p_isnN, p_len, p_lent, p_lenI, p_int, p_intb, p_bitlen, p_abs, p_max2, p_min2, p_rev, p_revI, p_tupof, p_listof, p_sumI, p_allb, p_anyb, p_idx0, p_idx1, p_idx2,
    items_L, items_I, rtv_rt, rtio_rt, rtio_nx, Bool.not_true, Bool.not_false, Bool.false_eq_true, Bool.true_eq_false, ↓reduceIte, if_true, if_false, beq_self_eq_true, bne_self_eq_false, decide_true, decide_false, f15_c1_ops, aE_of e2, all_true2, pis2_list, qs2_tup, Bool.or_false, Bool.or_true, Bool.true_or]
    | tup xs =>
      have h' : xs.length ≤ SZ ∧ smL m xs = true := by simpa [smD] using h
      have e2 := same_c1 (wf := wf) xs (.tup xs) (.tup xs) none (by show R.ok ((xs.zip xs).map _) = _; rw [zip_self, List.map_map]; rfl) h'.1 (n + (m + 1)) (fun d hd => ih d (smL_mem h'.2 d hd) n)
      simp -implicitDefEqProofs (disch := omega) only [f15, qm_cst, qm_var, qm_glo, m_kV, qm_prim, m_kPrim, qm_bop, qm_ife, m_kIfe, m_kIfeT, m_kIfeF, qm_lst, qm_tup, m_kLst, m_kTup, qm_dct, qm_chain, m_kCh1, m_kCh2, m_kCh3T, m_kCh3F, m_kCh4, qm_call, m_kCall, m_kRet, m_kRetX, qm_callio, m_kIo0, m_kIo1, m_kIo2L, m_kIo2I, m_kRio, m_callq', m_kQ1, m_kQ2, m_kQ3, m_callz', m_kZ1, m_kZ2b, m_kZ2i, m_evs0, m_evs1, m_kS1, m_kC, m_o0, m_ovar, m_kV1, m_kV2, m_kV3, m_ocst, m_oglo, m_oprim, m_obop, m_oife, m_olst, m_otup, m_odct, m_ochain, m_ocall, m_ocallio, m_ocallq, m_ocallz, m_ocomp, m_kO1, m_b1, m_b2, m_kB1, m_kBtt, m_kBff, m_kBtf, m_kBft, m_f0, m_f1, m_kF1, m_kF2t, m_kF2f, m_over, m_kOver, m_range, m_kRange, m_enum, m_kEnum, m_zip, m_kZip, m_zips, m_kZips, m_kXs, m_r0, m_r1, m_seqN, m_seqR, m_seqB, m_seqC, m_asg, m_kAsg, m_asgT, m_kAsgT, m_kEnv, m_par, m_kPar, m_setix, m_kSt1, m_kSt2, m_kSt3, m_kSt4, m_kPut, m_app, m_kAp1L, m_kAp1I, m_kAp2, m_kAp3, m_ins, m_kIn1L, m_kIn1I, m_kIn2, m_kIn3, m_kIn4, m_spoil, m_kSpo, m_exp, m_kExp, m_ite, m_kIte, m_kIttT, m_kIttF, m_for, m_kFor, m_ret, m_kRt, m_retv, m_kRv, m_pass, m_brk, m_cnt, m_turnN, m_turnC, m_turnR, m_turnB, m_some, m_eltT, m_eltF, getV_0, getV_s, set_0, set_s, truth_b, truth_i, truth_n, zipf_0, zipf_s, tg_1, tg_2, tg_3, wipe_0, wipe_s,
    isTyL, isTyI, isTy, pis_int, pis_bool, pis_non, pis_str, pis_list, pis_tup, pis_dict, p_add, p_sub, p_neg, p_lt, p_le, p_gt, p_ge, p_eqi, p_nei, p_eqb, p_neb, p_eqs, p_nes, p_notb, p_isN, p_isnN, p_len, p_lent, p_lenI, p_int, p_intb, p_bitlen, p_abs, p_max2, p_min2, p_rev, p_revI, p_tupof, p_listof, p_sumI, p_allb, p_anyb, p_idx0, p_idx1, p_idx2,
    items_L, items_I, rtv_rt, rtio_rt, rtio_nx, Bool.not_true, Bool.not_false, Bool.false_eq_true, Bool.true_eq_false, ↓reduceIte, if_true, if_false, beq_self_eq_true, bne_self_eq_false, decide_true, decide_false, f15_c1_ops, aE_of e2, all_true2, pis2_list, qs2_tup, Bool.or_false, Bool.or_true, Bool.true_or]
    | _ => first | (simp [smD] at h; done) | (simp -implicitDefEqProofs (disch := omega) only [f15, qm_cst, qm_var, qm_glo, m_kV, qm_prim, m_kPrim, qm_bop, qm_ife, m_kIfe, m_kIfeT, m_kIfeF, qm_lst, qm_tup, m_kLst, m_kTup, qm_dct, qm_chain, m_kCh1, m_kCh2, m_kCh3T, m_kCh3F, m_kCh4, qm_call, m_kCall, m_kRet, m_kRetX, qm_callio, m_kIo0, m_kIo1, m_kIo2L, m_kIo2I, m_kRio, m_callq', m_kQ1, m_kQ2, m_kQ3, m_callz', m_kZ1, m_kZ2b, m_kZ2i, m_evs0, m_evs1, m_kS1, m_kC, m_o0, m_ovar, m_kV1, m_kV2, m_kV3, m_ocst, m_oglo, m_oprim, m_obop, m_oife, m_olst, m_otup, m_odct, m_ochain, m_ocall, m_ocallio, m_ocallq, m_ocallz, m_ocomp, m_kO1, m_b1, m_b2, m_kB1, m_kBtt, m_kBff, m_kBtf, m_kBft, m_f0, m_f1, m_kF1, m_kF2t, m_kF2f, m_over, m_kOver, m_range, m_kRange, m_enum, m_kEnum, m_zip, m_kZip, m_zips, m_kZips, m_kXs, m_r0, m_r1, m_seqN, m_seqR, m_seqB, m_seqC, m_asg, m_kAsg, m_asgT, m_kAsgT, m_kEnv, m_par, m_kPar, m_setix, m_kSt1, m_kSt2, m_kSt3, m_kSt4, m_kPut, m_app, m_kAp1L, m_kAp1I, m_kAp2, m_kAp3, m_ins, m_kIn1L, m_kIn1I, m_kIn2, m_kIn3, m_kIn4, m_spoil, m_kSpo, m_exp, m_kExp, m_ite, m_kIte, m_kIttT, m_kIttF, m_for, m_kFor, m_ret, m_kRt, m_retv, m_kRv, m_pass, m_brk, m_cnt, m_turnN, m_turnC, m_turnR, m_turnB, m_some, m_eltT, m_eltF, getV_0, getV_s, set_0, set_s, truth_b, truth_i, truth_n, zipf_0, zipf_s, tg_1, tg_2, tg_3, wipe_0, wipe_s,
    isTyL, isTyI, isTy, pis_int, pis_bool, pis_non, pis_str, pis_list, pis_tup, pis_dict, p_add, p_sub, p_neg, p_lt, p_le, p_gt, p_ge, p_eqi, p_nei, p_eqb, p_neb, p_eqs, p_nes, p_notb, p_isN, p_isnN, p_len, p_lent, p_lenI, p_int, p_intb, p_bitlen, p_abs, p_max2, p_min2, p_rev, p_revI, p_tupof, p_listof, p_sumI, p_allb, p_anyb, p_idx0, p_idx1, p_idx2,
    items_L, items_I, rtv_rt, rtio_rt, rtio_nx, Bool.not_true, Bool.not_false, Bool.false_eq_true, Bool.true_eq_false, ↓reduceIte, if_true, if_false, beq_self_eq_true, bne_self_eq_false, decide_true, decide_false, pis2_int, pis2_bool, qs2_str, qs2_non, Bool.or_false, Fh.isNon, q_eqs])
end
end Law
end
section
set_option maxRecDepth 100000
set_option maxHeartbeats 4000000
namespace Law
open PySem L2 Fh
section
variable {wf : Nat}
theorem rnd {b : Nat} {g : Gn} (hg : GOk (b + 1) g) {m : Int} (hm : 0 < m ∧ m < 18446744073709551616) (n : Nat) : ∃ v g', (0 ≤ v ∧ v < m) ∧ GOk b g' ∧ callD PP GG wf (n + 2) 11 [g.d, .int m] = .ok (.int v, some g'.d) := rnd_spec (r := 11) (h := 10) rfl rfl hg hm n
theorem pick {b : Nat} {g : Gn} (hg : GOk (b + 1) g) {xs : List D} (hm : 0 < xs.length ∧ xs.length < 18446744073709551616) (n : Nat) : ∃ i g', ∃ hi : i < xs.length, GOk b g' ∧ callD PP GG wf (n + 3) 14 [g.d, .list xs] = .ok (xs[i], some g'.d) := pick_spec (f := 14) (r := 11) (h := 10) rfl rfl rfl hg hm n
theorem ruler {b : Nat} {g : Gn} (hg : GOk (b + 9) g) {far : Int} (hf : 0 < far ∧ far ≤ 60) (n : Nat) :
    ∃ rs g', Rul rs ∧ GOk b g' ∧ callD PP GG wf (n + 3) 16 [g.d, .int 8, .int far] = .ok (dI rs, some (Gn.d g')) := by
  obtain ⟨m, g1, hm, hg1, e1⟩ := rnd (wf := wf) (b := b + 8) hg (m := 8) (by omega) n
  have hi : evIt GG (callD PP GG wf (n + 2)) (.range (.cons (.prim .add (.cons (.cst (.int 1)) (.cons (.callio 11 0 (.cons (.var 1) .nil)) .nil))) .nil)) [some g.d, some (.int 8), some (.int far), none] = .ok ((List.range (1 + m).toNat).map fun (k : Nat) => D.int (k : Int), [some g1.d, some (.int 8), some (.int far), none]) := by
    rw [it_id]; simp -implicitDefEqProofs (disch := omega) only [qm_cst, qm_var, qm_glo, m_kV, qm_prim, m_kPrim, qm_bop, qm_ife, m_kIfe, m_kIfeT, m_kIfeF, qm_lst, qm_tup, m_kLst, m_kTup, qm_dct, qm_chain, m_kCh1, m_kCh2, m_kCh3T, m_kCh3F, m_kCh4, qm_call, m_kCall, m_kRet, m_kRetX, qm_callio, m_kIo0, m_kIo1, m_kIo2L, m_kIo2I, m_kRio, m_callq', m_kQ1, m_kQ2, m_kQ3, m_callz', m_kZ1, m_kZ2b, m_kZ2i, m_evs0, m_evs1, m_kS1, m_kC, m_o0, m_ovar, m_kV1, m_kV2, m_kV3, m_ocst, m_oglo, m_oprim, m_obop, m_oife, m_olst, m_otup, m_odct, m_ochain, m_ocall, m_ocallio, m_ocallq, m_ocallz, m_ocomp, m_kO1, m_b1, m_b2, m_kB1, m_kBtt, m_kBff, m_kBtf, m_kBft, m_f0, m_f1, m_kF1, m_kF2t, m_kF2f, m_over, m_kOver, m_range, m_kRange, m_enum, m_kEnum, m_zip, m_kZip, m_zips, m_kZips, m_kXs, m_r0, m_r1, m_seqN, m_seqR, m_seqB, m_seqC, m_asg, m_kAsg, m_asgT, m_kAsgT, m_kEnv, m_par, m_kPar, m_setix, m_kSt1, m_kSt2, m_kSt3, m_kSt4, m_kPut, m_app, m_kAp1L, m_kAp1I, m_kAp2, m_kAp3, m_ins, m_kIn1L, m_kIn1I, m_kIn2, m_kIn3, m_kIn4, m_spoil, m_kSpo, m_exp, m_kExp, m_ite, m_kIte, m_kIttT, m_kIttF, m_for, m_kFor, m_ret, m_kRt, m_retv, m_kRv, m_pass, m_brk, m_cnt, m_turnN, m_turnC, m_turnR, m_turnB, m_some, m_eltT, m_eltF, getV_0, getV_s, set_0, set_s, truth_b, truth_i, truth_n, zipf_0, zipf_s, tg_1, tg_2, tg_3, wipe_0, wipe_s,
    isTyL, isTyI, isTy, pis_int, pis_bool, pis_non, pis_str, pis_list, pis_tup, pis_dict, p_add, p_sub, p_neg, p_lt, p_le, p_gt, p_ge, p_eqi, p_nei, p_eqb, p_neb, p_eqs, p_nes, p_notb, p_isN, p_isnN, p_len, p_lent, p_lenI, p_int, p_intb, p_bitlen, p_abs, p_max2, p_min2, p_rev, p_revI, p_tupof, p_listof, p_sumI, p_allb, p_anyb, p_idx0, p_idx1, p_idx2,
    items_L, items_I, rtv_rt, rtio_rt, rtio_nx, Bool.not_true, Bool.not_false, Bool.false_eq_true, Bool.true_eq_false, ↓reduceIte, if_true, if_false, beq_self_eq_true, bne_self_eq_false, decide_true, decide_false, m_kIo2G, e1, range_1, id]
  have hc : ∃ xs g', ev GG (callD PP GG wf (n + 2)) f16_c0 [some g.d, some (.int 8), some (.int far), none] = .ok (.list xs, [some (Gn.d g'), some (.int 8), some (.int far), none]) ∧ All2 (fun _ x => ∃ i, x = .int i ∧ (1 ≤ i ∧ i ≤ 60)) ((List.range (1 + m).toNat).map fun (k : Nat) => D.int (k : Int)) xs ∧ GOk (b + 0) g' := by
    unfold f16_c0
    refine comp_draw _ _ _ _ _ _ (fun g : Gn => [some g.d, some (.int 8), some (.int far), none]) (fun k g => GOk (b + k) g) (fun _ x => ∃ i, x = .int i ∧ (1 ≤ i ∧ i ≤ 60)) ?_ ?_ _ g1 hi (by show _ ≤ 16777216; simp; omega) 0 (hg1.mono (by simp; omega))
    · intro s s' i hi
      simp at hi; subst hi; rfl
    · intro k s d hJ
      obtain ⟨v, g', hv, hg', e⟩ := rnd (wf := wf) (b := b + k) hJ (m := far) (by omega) n
      refine ⟨.int (1 + v), g', [some g'.d, some (.int 8), some (.int far), some d], ⟨1 + v, rfl, by omega⟩, hg', rfl, ?_⟩
      rw [turnC_eq rfl]
      simp -implicitDefEqProofs (disch := omega) only [qm_cst, qm_var, qm_glo, m_kV, qm_prim, m_kPrim, qm_bop, qm_ife, m_kIfe, m_kIfeT, m_kIfeF, qm_lst, qm_tup, m_kLst, m_kTup, qm_dct, qm_chain, m_kCh1, m_kCh2, m_kCh3T, m_kCh3F, m_kCh4, qm_call, m_kCall, m_kRet, m_kRetX, qm_callio, m_kIo0, m_kIo1, m_kIo2L, m_kIo2I, m_kRio, m_callq', m_kQ1, m_kQ2, m_kQ3, m_callz', m_kZ1, m_kZ2b, m_kZ2i, m_evs0, m_evs1, m_kS1, m_kC, m_o0, m_ovar, m_kV1, m_kV2, m_kV3, m_ocst, m_oglo, m_oprim, m_obop, m_oife, m_olst, m_otup, m_odct, m_ochain, m_ocall, m_ocallio, m_ocallq, m_ocallz, m_ocomp, m_kO1, m_b1, m_b2, m_kB1, m_kBtt, m_kBff, m_kBtf, m_kBft, m_f0, m_f1, m_kF1, m_kF2t, m_kF2f, m_over, m_kOver, m_range, m_kRange, m_enum, m_kEnum, m_zip, m_kZip, m_zips, m_kZips, m_kXs, m_r0, m_r1, m_seqN, m_seqR, m_seqB, m_seqC, m_asg, m_kAsg, m_asgT, m_kAsgT, m_kEnv, m_par, m_kPar, m_setix, m_kSt1, m_kSt2, m_kSt3, m_kSt4, m_kPut, m_app, m_kAp1L, m_kAp1I, m_kAp2, m_kAp3, m_ins, m_kIn1L, m_kIn1I, m_kIn2, m_kIn3, m_kIn4, m_spoil, m_kSpo, m_exp, m_kExp, m_ite, m_kIte, m_kIttT, m_kIttF, m_for, m_kFor, m_ret, m_kRt, m_retv, m_kRv, m_pass, m_brk, m_cnt, m_turnN, m_turnC, m_turnR, m_turnB, m_some, m_eltT, m_eltF, getV_0, getV_s, set_0, set_s, truth_b, truth_i, truth_n, zipf_0, zipf_s, tg_1, tg_2, tg_3, wipe_0, wipe_s,
    isTyL, isTyI, isTy, pis_int, pis_bool, pis_non, pis_str, pis_list, pis_tup, pis_dict, p_add, p_sub, p_neg, p_lt, p_le, p_gt, p_ge, p_eqi, p_nei, p_eqb, p_neb, p_eqs, p_nes, p_notb, p_isN, p_isnN, p_len, p_lent, p_lenI, p_int, p_intb, p_bitlen, p_abs, p_max2, p_min2, p_rev, p_revI, p_tupof, p_listof, p_sumI, p_allb, p_anyb, p_idx0, p_idx1, p_idx2,
    items_L, items_I, rtv_rt, rtio_rt, rtio_nx, Bool.not_true, Bool.not_false, Bool.false_eq_true, Bool.true_eq_false, ↓reduceIte, if_true, if_false, beq_self_eq_true, bne_self_eq_false, decide_true, decide_false, m_kIo2G, e]
  obtain ⟨ds, g', e, hx, hg'⟩ := hc
  obtain ⟨xs, rfl, hp, hl⟩ := All2.ints hx
  have hl2 : xs.length = (1 + m).toNat := by simpa using hl
  refine ⟨xs, g', ⟨fun h => ?_, hp, by omega⟩, hg', ?_⟩
  · rw [h] at hl2; simp at hl2; omega
  refine callD_io (fd := f16) (ρ := [some g.d, some (.int 8), some (.int far), none]) rfl rfl rfl rfl (.inl rfl) ?_
  rw [runs_aIO]
  have e' : D.list (xs.map D.int) = dI xs := rfl
  simp -implicitDefEqProofs (disch := omega) only [f16, qm_cst, qm_var, qm_glo, m_kV, qm_prim, m_kPrim, qm_bop, qm_ife, m_kIfe, m_kIfeT, m_kIfeF, qm_lst, qm_tup, m_kLst, m_kTup, qm_dct, qm_chain, m_kCh1, m_kCh2, m_kCh3T, m_kCh3F, m_kCh4, qm_call, m_kCall, m_kRet, m_kRetX, qm_callio, m_kIo0, m_kIo1, m_kIo2L, m_kIo2I, m_kRio, m_callq', m_kQ1, m_kQ2, m_kQ3, m_callz', m_kZ1, m_kZ2b, m_kZ2i, m_evs0, m_evs1, m_kS1, m_kC, m_o0, m_ovar, m_kV1, m_kV2, m_kV3, m_ocst, m_oglo, m_oprim, m_obop, m_oife, m_olst, m_otup, m_odct, m_ochain, m_ocall, m_ocallio, m_ocallq, m_ocallz, m_ocomp, m_kO1, m_b1, m_b2, m_kB1, m_kBtt, m_kBff, m_kBtf, m_kBft, m_f0, m_f1, m_kF1, m_kF2t, m_kF2f, m_over, m_kOver, m_range, m_kRange, m_enum, m_kEnum, m_zip, m_kZip, m_zips, m_kZips, m_kXs, m_r0, m_r1, m_seqN, m_seqR, m_seqB, m_seqC, m_asg, m_kAsg, m_asgT, m_kAsgT, m_kEnv, m_par, m_kPar, m_setix, m_kSt1, m_kSt2, m_kSt3, m_kSt4, m_kPut, m_app, m_kAp1L, m_kAp1I, m_kAp2, m_kAp3, m_ins, m_kIn1L, m_kIn1I, m_kIn2, m_kIn3, m_kIn4, m_spoil, m_kSpo, m_exp, m_kExp, m_ite, m_kIte, m_kIttT, m_kIttF, m_for, m_kFor, m_ret, m_kRt, m_retv, m_kRv, m_pass, m_brk, m_cnt, m_turnN, m_turnC, m_turnR, m_turnB, m_some, m_eltT, m_eltF, getV_0, getV_s, set_0, set_s, truth_b, truth_i, truth_n, zipf_0, zipf_s, tg_1, tg_2, tg_3, wipe_0, wipe_s,
    isTyL, isTyI, isTy, pis_int, pis_bool, pis_non, pis_str, pis_list, pis_tup, pis_dict, p_add, p_sub, p_neg, p_lt, p_le, p_gt, p_ge, p_eqi, p_nei, p_eqb, p_neb, p_eqs, p_nes, p_notb, p_isN, p_isnN, p_len, p_lent, p_lenI, p_int, p_intb, p_bitlen, p_abs, p_max2, p_min2, p_rev, p_revI, p_tupof, p_listof, p_sumI, p_allb, p_anyb, p_idx0, p_idx1, p_idx2,
    items_L, items_I, rtv_rt, rtio_rt, rtio_nx, Bool.not_true, Bool.not_false, Bool.false_eq_true, Bool.true_eq_false, ↓reduceIte, if_true, if_false, beq_self_eq_true, bne_self_eq_false, decide_true, decide_false, aE_of e, e']
theorem All2.ways {α : Type} {l : List α} {m : List D} (h : All2 (fun _ x => ∃ b, x = way b) l m) : ∃ bs : List Bool, m = bs.map way ∧ bs.length = l.length := by
  induction h with
  | nil => exact ⟨[], rfl, rfl⟩
  | cons h _ ih =>
    obtain ⟨i, rfl⟩ := h
    obtain ⟨xs, rfl, hl⟩ := ih
    exact ⟨i :: xs, rfl, by simp [hl]⟩
abbrev e16 (g : Option D) (rs : List Int) : DEnv := [g, some (dI rs), none, none, none, none, none, none, none, none, none, none, none, none, none, none]
theorem c20_2 {b : Nat} {g : Gn} {rs : List Int} (hr : Rul rs) (hg : GOk (b + 7) g) (n : Nat) :
    ∃ bs g', bs.length = rs.length - 1 ∧ GOk b g' ∧ ev GG (callD PP GG wf (n + 3)) f20_c2 (e16 (some g.d) rs) = .ok (dW bs, e16 (some (Gn.d g')) rs) := by
  have hi : evIt GG (callD PP GG wf (n + 3)) (.over (.prim .slL (.cons (.var 1) (.cons (.cst (.int 1)) .nil)))) (e16 (some g.d) rs) = .ok ((rs.drop (Int.toNat 1)).map D.int, e16 (some g.d) rs) := by
    rw [it_id]; simp -implicitDefEqProofs (disch := omega) only [e16, qm_cst, qm_var, qm_glo, m_kV, qm_prim, m_kPrim, qm_bop, qm_ife, m_kIfe, m_kIfeT, m_kIfeF, qm_lst, qm_tup, m_kLst, m_kTup, qm_dct, qm_chain, m_kCh1, m_kCh2, m_kCh3T, m_kCh3F, m_kCh4, qm_call, m_kCall, m_kRet, m_kRetX, qm_callio, m_kIo0, m_kIo1, m_kIo2L, m_kIo2I, m_kRio, m_callq', m_kQ1, m_kQ2, m_kQ3, m_callz', m_kZ1, m_kZ2b, m_kZ2i, m_evs0, m_evs1, m_kS1, m_kC, m_o0, m_ovar, m_kV1, m_kV2, m_kV3, m_ocst, m_oglo, m_oprim, m_obop, m_oife, m_olst, m_otup, m_odct, m_ochain, m_ocall, m_ocallio, m_ocallq, m_ocallz, m_ocomp, m_kO1, m_b1, m_b2, m_kB1, m_kBtt, m_kBff, m_kBtf, m_kBft, m_f0, m_f1, m_kF1, m_kF2t, m_kF2f, m_over, m_kOver, m_range, m_kRange, m_enum, m_kEnum, m_zip, m_kZip, m_zips, m_kZips, m_kXs, m_r0, m_r1, m_seqN, m_seqR, m_seqB, m_seqC, m_asg, m_kAsg, m_asgT, m_kAsgT, m_kEnv, m_par, m_kPar, m_setix, m_kSt1, m_kSt2, m_kSt3, m_kSt4, m_kPut, m_app, m_kAp1L, m_kAp1I, m_kAp2, m_kAp3, m_ins, m_kIn1L, m_kIn1I, m_kIn2, m_kIn3, m_kIn4, m_spoil, m_kSpo, m_exp, m_kExp, m_ite, m_kIte, m_kIttT, m_kIttF, m_for, m_kFor, m_ret, m_kRt, m_retv, m_kRv, m_pass, m_brk, m_cnt, m_turnN, m_turnC, m_turnR, m_turnB, m_some, m_eltT, m_eltF, getV_0, getV_s, set_0, set_s, truth_b, truth_i, truth_n, zipf_0, zipf_s, tg_1, tg_2, tg_3, wipe_0, wipe_s,
    isTyL, isTyI, isTy, pis_int, pis_bool, pis_non, pis_str, pis_list, pis_tup, pis_dict, p_add, p_sub, p_neg, p_lt, p_le, p_gt, p_ge, p_eqi, p_nei, p_eqb, p_neb, p_eqs, p_nes, p_notb, p_isN, p_isnN, p_len, p_lent, p_lenI, p_int, p_intb, p_bitlen, p_abs, p_max2, p_min2, p_rev, p_revI, p_tupof, p_listof, p_sumI, p_allb, p_anyb, p_idx0, p_idx1, p_idx2,
    items_L, items_I, rtv_rt, rtio_rt, rtio_nx, Bool.not_true, Bool.not_false, Bool.false_eq_true, Bool.true_eq_false, ↓reduceIte, if_true, if_false, beq_self_eq_true, bne_self_eq_false, decide_true, decide_false, p_slLI, id]
  have hc : ∃ xs g', ev GG (callD PP GG wf (n + 3)) f20_c2 (e16 (some g.d) rs) = .ok (.list xs, e16 (some (Gn.d g')) rs) ∧ All2 (fun _ x => ∃ b, x = way b) ((rs.drop (Int.toNat 1)).map D.int) xs ∧ GOk (b + 0) g' := by
    have := hr.len
    unfold f20_c2
    refine comp_draw _ _ _ _ _ _ (fun g : Gn => e16 (some g.d) rs) (fun k g => GOk (b + k) g) (fun _ x => ∃ b, x = way b) ?_ ?_ _ g hi (by show _ ≤ 16777216; simp; omega) 0 (hg.mono (by simp; omega))
    · intro s s' i hi
      simp at hi; subst hi; rfl
    · intro k s d hJ
      obtain ⟨i, g', hi, hg', e⟩ := pick (wf := wf) (b := b + k) hJ (xs := [.str (cs [108]), .str (cs [114])]) (by simp) n
      have hw : ∃ b, ([.str (cs [108]), .str (cs [114])] : List D)[i] = way b := by
        match i, hi with
        | 0, _ => exact ⟨false, rfl⟩
        | 1, _ => exact ⟨true, rfl⟩
      obtain ⟨w, hw⟩ := hw
      rw [hw] at e
      refine ⟨way w, g', [some g'.d, some (dI rs), none, none, none, none, none, none, none, none, none, none, none, none, none, some d], ⟨w, rfl⟩, hg', rfl, ?_⟩
      rw [turnC_eq rfl]
      have h0 : wipeE [15] (e16 (some s.d) rs) = e16 (some s.d) rs := rfl
      rw [h0]
      simp -implicitDefEqProofs (disch := omega) only [e16, qm_cst, qm_var, qm_glo, m_kV, qm_prim, m_kPrim, qm_bop, qm_ife, m_kIfe, m_kIfeT, m_kIfeF, qm_lst, qm_tup, m_kLst, m_kTup, qm_dct, qm_chain, m_kCh1, m_kCh2, m_kCh3T, m_kCh3F, m_kCh4, qm_call, m_kCall, m_kRet, m_kRetX, qm_callio, m_kIo0, m_kIo1, m_kIo2L, m_kIo2I, m_kRio, m_callq', m_kQ1, m_kQ2, m_kQ3, m_callz', m_kZ1, m_kZ2b, m_kZ2i, m_evs0, m_evs1, m_kS1, m_kC, m_o0, m_ovar, m_kV1, m_kV2, m_kV3, m_ocst, m_oglo, m_oprim, m_obop, m_oife, m_olst, m_otup, m_odct, m_ochain, m_ocall, m_ocallio, m_ocallq, m_ocallz, m_ocomp, m_kO1, m_b1, m_b2, m_kB1, m_kBtt, m_kBff, m_kBtf, m_kBft, m_f0, m_f1, m_kF1, m_kF2t, m_kF2f, m_over, m_kOver, m_range, m_kRange, m_enum, m_kEnum, m_zip, m_kZip, m_zips, m_kZips, m_kXs, m_r0, m_r1, m_seqN, m_seqR, m_seqB, m_seqC, m_asg, m_kAsg, m_asgT, m_kAsgT, m_kEnv, m_par, m_kPar, m_setix, m_kSt1, m_kSt2, m_kSt3, m_kSt4, m_kPut, m_app, m_kAp1L, m_kAp1I, m_kAp2, m_kAp3, m_ins, m_kIn1L, m_kIn1I, m_kIn2, m_kIn3, m_kIn4, m_spoil, m_kSpo, m_exp, m_kExp, m_ite, m_kIte, m_kIttT, m_kIttF, m_for, m_kFor, m_ret, m_kRt, m_retv, m_kRv, m_pass, m_brk, m_cnt, m_turnN, m_turnC, m_turnR, m_turnB, m_some, m_eltT, m_eltF, getV_0, getV_s, set_0, set_s, truth_b, truth_i, truth_n, zipf_0, zipf_s, tg_1, tg_2, tg_3, wipe_0, wipe_s,
    isTyL, isTyI, isTy, pis_int, pis_bool, pis_non, pis_str, pis_list, pis_tup, pis_dict, p_add, p_sub, p_neg, p_lt, p_le, p_gt, p_ge, p_eqi, p_nei, p_eqb, p_neb, p_eqs, p_nes, p_notb, p_isN, p_isnN, p_len, p_lent, p_lenI, p_int, p_intb, p_bitlen, p_abs, p_max2, p_min2, p_rev, p_revI, p_tupof, p_listof, p_sumI, p_allb, p_anyb, p_idx0, p_idx1, p_idx2,
    items_L, items_I, rtv_rt, rtio_rt, rtio_nx, Bool.not_true, Bool.not_false, Bool.false_eq_true, Bool.true_eq_false, ↓reduceIte, if_true, if_false, beq_self_eq_true, bne_self_eq_false, decide_true, decide_false, m_kIo2G, e]
  obtain ⟨ds, g', e, hx, hg'⟩ := hc
  obtain ⟨bs, rfl, hl⟩ := All2.ways hx
  exact ⟨bs, g', by simpa using hl, hg', e⟩
/-! ### values that are judged -/
def Val (d : D) : Prop := Ok1 d ∧ ∃ s, prim .repr [d] = .ok (.str s)
def Atm (d : D) : Prop := shp 11 d = true ∧ wt d ≤ 1000
theorem shps_of {n : Nat} : ∀ {xs : List D}, (∀ d ∈ xs, shp n d = true) → shps n xs = true
  | [], _ => rfl
  | x :: xs, h => by
    rw [shps, h x List.mem_cons_self, shps_of fun d hd => h d (List.mem_cons_of_mem _ hd)]; rfl
theorem wts_of {m : Nat} : ∀ {xs : List D}, (∀ d ∈ xs, wt d ≤ m) → wts xs ≤ (m + 2) * xs.length
  | [], _ => by simp [wts]
  | x :: xs, h => by
    have h1 := h x List.mem_cons_self
    have h2 := wts_of fun d hd => h d (List.mem_cons_of_mem _ hd)
    simp only [wts, List.length_cons, Nat.mul_succ]
    omega
theorem Val.of {d : D} (h : shp 12 d = true) (h2 : wt d ≤ 1000000) : Val d := by
  refine ⟨.inr ⟨h, ?_⟩, _, p_repr _ h (by omega)⟩
  rintro xs rfl
  have := len_wts xs
  have h3 : wts xs + 2 ≤ 1000000 := h2
  show _ ≤ 16777216
  omega
theorem Val.list {xs : List D} (h : ∀ d ∈ xs, Atm d) (hl : xs.length ≤ 100) : Val (.list xs) := by
  have := wts_of (fun d hd => (h d hd).2)
  refine .of (shp_list (shps_of fun d hd => (h d hd).1)) ?_
  show wts xs + 2 ≤ _
  have : (1000 + 2) * xs.length ≤ (1000 + 2) * 100 := Nat.mul_le_mul_left _ hl
  omega
theorem Val.tup {xs : List D} (h : ∀ d ∈ xs, Atm d) (hl : xs.length ≤ 100) : Val (.tup xs) := by
  have := wts_of (fun d hd => (h d hd).2)
  refine .of (by show shps 11 xs = true; exact shps_of fun d hd => (h d hd).1) ?_
  show wts xs + 3 ≤ _
  have : (1000 + 2) * xs.length ≤ (1000 + 2) * 100 := Nat.mul_le_mul_left _ hl
  omega
theorem Val.dict : Val (.dict [] []) := ⟨.inl rfl, _, p_repr0⟩
theorem Atm.way (b : Bool) : Atm (way b) := by cases b <;> exact ⟨rfl, by decide +kernel⟩
theorem Atm.ways {bs : List Bool} : ∀ d ∈ bs.map Law.way, Atm d := fun d hd => by
  obtain ⟨b, _, rfl⟩ := List.mem_map.mp hd
  exact .way b
theorem Atm.int {i : Int} (h : -1000 < i ∧ i < 1000) : Atm (.int i) := by
  have h3 : i.natAbs.log2 < 10 := by
    by_cases h0 : i.natAbs = 0
    · rw [h0]; decide
    · exact (Nat.log2_lt h0).mpr (by omega)
  refine ⟨rfl, ?_⟩
  show (if _ then _ else _) ≤ _
  rw [if_pos (by omega)]; omega
theorem glue_ok : ∀ (bs : List Bool) (acc : Array Nat), acc.all (· < 0x110000) = true →
    (((bs.map fun b => if b then cs [114] else cs [108]).foldl (fun acc p => acc ++ (cs []).cps ++ p.cps) acc).all (· < 0x110000)) = true ∧ ((bs.map fun b => if b then cs [114] else cs [108]).foldl (fun acc p => acc ++ (cs []).cps ++ p.cps) acc).size = acc.size + bs.length
  | [], acc, h => ⟨h, rfl⟩
  | b :: bs, acc, h => by
    rw [List.map_cons, List.foldl_cons, List.length_cons]
    have e1 : (cs []).cps.all (· < 0x110000) = true := by decide +kernel
    have e2 : (if b then cs [114] else cs [108]).cps.all (· < 0x110000) = true := by cases b <;> decide +kernel
    have e3 : (if b then cs [114] else cs [108]).cps.size = 1 := by cases b <;> rfl
    have e4 : (cs []).cps.size = 0 := rfl
    have ih := glue_ok bs (acc ++ (cs []).cps ++ (if b then cs [114] else cs [108]).cps) (by rw [Array.all_append, Array.all_append, h, e1, e2]; rfl)
    refine ⟨ih.1, ih.2.trans ?_⟩
    rw [Array.size_append, Array.size_append, e3, e4]; omega
theorem join_ok : ∀ bs : List Bool, ((Txt.join (cs []) (bs.map fun b => if b then cs [114] else cs [108])).cps.all (· < 0x110000)) = true ∧ (Txt.join (cs []) (bs.map fun b => if b then cs [114] else cs [108])).cps.size = bs.length
  | [] => ⟨by decide +kernel, rfl⟩
  | b :: r => by
    have h := glue_ok r (if b then cs [114] else cs [108]).cps (by cases b <;> decide +kernel)
    refine ⟨h.1, h.2.trans ?_⟩
    have e3 : (if b then cs [114] else cs [108]).cps.size = 1 := by cases b <;> rfl
    rw [e3, List.length_cons]; omega
theorem strsD_W : ∀ bs : List Bool, strsD (bs.map way) = some (bs.map fun b => if b then cs [114] else cs [108])
  | [] => rfl
  | b :: bs => by rw [List.map_cons, way, strsD, strsD_W bs]; rfl
theorem sum_lens (bs : List Bool) : ((bs.map fun b => if b then cs [114] else cs [108]).map (·.length)).sum = bs.length := by
  induction bs with
  | nil => rfl
  | cons b bs ih => rw [List.map_cons, List.map_cons, List.sum_cons, ih, List.length_cons]; cases b <;> simp [cs, Str.length] <;> omega
theorem p_joinW (bs : List Bool) (hl : bs.length ≤ 100) : prim (.joinS (cs [])) [dW bs] = .ok (.str (Txt.join (cs []) (bs.map fun b => if b then cs [114] else cs [108]))) := by
  show scOk (.joinS (cs [])) (match strsD (bs.map way) with | some ys => if (ys.map (·.length)).sum + ys.length * (cs []).length ≤ SZ then .ok (.str (Txt.join (cs []) ys)) else .bad | none => .bad) = _
  rw [strsD_W]
  show scOk (.joinS (cs [])) (if ((bs.map fun b => if b then cs [114] else cs [108]).map (·.length)).sum + _ * 0 ≤ SZ then _ else _) = _
  rw [sum_lens, if_pos (show _ ≤ 16777216 by omega)]
  rfl
theorem Val.join (bs : List Bool) (hl : bs.length ≤ 100) : Val (.str (Txt.join (cs []) (bs.map fun b => if b then cs [114] else cs [108]))) := by
  have h := join_ok bs
  refine .of rfl ?_
  show (if PyData.strOk _ then _ else _) ≤ _
  have h1 : PyData.strOk (Txt.join (cs []) (bs.map fun b => if b then cs [114] else cs [108])) = true := h.1
  rw [if_pos h1]
  have h2 : (Txt.join (cs []) (bs.map fun b => if b then cs [114] else cs [108])).length = bs.length := h.2
  rw [h2]; omega
end
end Law
end
section
set_option maxRecDepth 100000
set_option maxHeartbeats 4000000
namespace Law
open PySem L2 Fh
/-! ### the plain law: a case is as long from behind -/
theorem jN_last (st : List Int) : ∀ j, j ≤ st.length → (jN st j).getLastD 0 = (st.take j).sum
  | 0, _ => by simp [jN]
  | j + 1, h => by
    have ih := jN_last st j (by omega)
    rw [jN, List.take_succ_eq_append_getElem (by omega), List.sum_append, ← ih]
    have e : gi st (j : Int) = st[j] := by
      unfold gi
      rw [List.getD_eq_getElem?_getD, Int.toNat_natCast, List.getElem?_eq_getElem (by omega)]; rfl
    rw [e]
    simp
theorem jN_mem (st : List Int) (x : Int) : ∀ j, j ≤ st.length → (x ∈ jN st j ↔ ∃ k, k ≤ j ∧ x = (st.take k).sum)
  | 0, _ => by
    constructor
    · intro h
      have : x = 0 := by simpa [jN] using h
      exact ⟨0, Nat.le_refl _, by simpa using this⟩
    · rintro ⟨k, hk, rfl⟩
      obtain rfl : k = 0 := by omega
      simp [jN]
  | j + 1, h => by
    have ih := jN_mem st x j (by omega)
    have hl := jN_last st (j + 1) h
    rw [jN] at hl
    have hl2 : (jN st j).getLastD 0 + gi st j = (st.take (j + 1)).sum := by simpa using hl
    rw [jN, List.mem_append, ih, List.mem_singleton, hl2]
    constructor
    · rintro (⟨k, hk, e⟩ | e)
      · exact ⟨k, by omega, e⟩
      · exact ⟨j + 1, Nat.le_refl _, e⟩
    · rintro ⟨k, hk, e⟩
      by_cases h2 : k ≤ j
      · exact .inl ⟨k, h2, e⟩
      · obtain rfl : k = j + 1 := by omega
        exact .inr e
theorem joints_mem (st : List Int) (x : Int) : x ∈ joints st ↔ ∃ k, k ≤ st.length ∧ x = (st.take k).sum := jN_mem st x _ (Nat.le_refl _)
theorem fold_max (xs : List Int) : ∀ a : Int, (xs.foldl max a ∈ a :: xs) ∧ ∀ y ∈ a :: xs, y ≤ xs.foldl max a := by
  induction xs with
  | nil => intro a; simp
  | cons x xs ih =>
    intro a
    obtain ⟨h1, h2⟩ := ih (max a x)
    rw [List.foldl_cons]
    refine ⟨?_, fun y hy => ?_⟩
    · rcases List.mem_cons.mp h1 with h | h
      · rw [h]
        by_cases hc : a ≤ x
        · rw [Int.max_eq_right hc]; simp
        · rw [Int.max_eq_left (by omega)]; simp
      · exact List.mem_cons_of_mem _ (List.mem_cons_of_mem _ h)
    · have h3 := h2 (max a x) List.mem_cons_self
      rcases List.mem_cons.mp hy with h | h
      · omega
      · rcases List.mem_cons.mp h with h | h
        · omega
        · exact h2 y (List.mem_cons_of_mem _ h)
theorem fold_min (xs : List Int) : ∀ a : Int, (xs.foldl min a ∈ a :: xs) ∧ ∀ y ∈ a :: xs, xs.foldl min a ≤ y := by
  induction xs with
  | nil => intro a; simp
  | cons x xs ih =>
    intro a
    obtain ⟨h1, h2⟩ := ih (min a x)
    rw [List.foldl_cons]
    refine ⟨?_, fun y hy => ?_⟩
    · rcases List.mem_cons.mp h1 with h | h
      · rw [h]
        by_cases hc : a ≤ x
        · rw [Int.min_eq_left hc]; simp
        · rw [Int.min_eq_right (by omega)]; simp
      · exact List.mem_cons_of_mem _ (List.mem_cons_of_mem _ h)
    · have h3 := h2 (min a x) List.mem_cons_self
      rcases List.mem_cons.mp hy with h | h
      · omega
      · rcases List.mem_cons.mp h with h | h
        · omega
        · exact h2 y (List.mem_cons_of_mem _ h)
theorem mx_spec {xs : List Int} (h : xs ≠ []) : mx xs ∈ xs ∧ ∀ y ∈ xs, y ≤ mx xs := by
  cases xs with
  | nil => exact absurd rfl h
  | cons x xs => exact fold_max xs x
theorem mn_spec {xs : List Int} (h : xs ≠ []) : mn xs ∈ xs ∧ ∀ y ∈ xs, mn xs ≤ y := by
  cases xs with
  | nil => exact absurd rfl h
  | cons x xs => exact fold_min xs x
theorem cas_flip {st st' : List Int} (c : Int) (h : ∀ x, x ∈ joints st' ↔ c - x ∈ joints st) : cas st' = cas st := by
  obtain ⟨a1, a2⟩ := mx_spec (jN_ne st st.length)
  obtain ⟨b1, b2⟩ := mn_spec (jN_ne st st.length)
  obtain ⟨c1, c2⟩ := mx_spec (jN_ne st' st'.length)
  obtain ⟨d1, d2⟩ := mn_spec (jN_ne st' st'.length)
  unfold cas
  have e1 := a2 _ ((h _).mp d1)
  have e2 := b2 _ ((h _).mp c1)
  have e3 := c2 (c - mn (joints st)) ((h _).mpr (by rw [show c - (c - mn (joints st)) = mn (joints st) by omega]; exact b1))
  have e4 := d2 (c - mx (joints st)) ((h _).mpr (by rw [show c - (c - mx (joints st)) = mx (joints st) by omega]; exact a1))
  change _ ≤ mx (joints st) at e1
  change mn (joints st) ≤ _ at e2
  change _ ≤ mx (joints st') at e3
  change mn (joints st') ≤ _ at e4
  have f1 : c - mn (joints st') ≤ mx (joints st) := e1
  have f2 : mn (joints st) ≤ c - mx (joints st') := e2
  omega
theorem sum_neg (l : List Int) : (l.map fun x => 0 - x).sum = 0 - l.sum := by
  induction l with
  | nil => rfl
  | cons x l ih => rw [List.map_cons, List.sum_cons, ih, List.sum_cons]; omega
theorem cas_neg (st : List Int) : cas (st.map fun x => 0 - x) = cas st := by
  refine cas_flip 0 fun x => ?_
  rw [joints_mem, joints_mem, List.length_map]
  constructor
  · rintro ⟨k, hk, rfl⟩
    exact ⟨k, hk, by rw [← List.map_take, sum_neg]; omega⟩
  · rintro ⟨k, hk, e⟩
    exact ⟨k, hk, by rw [← List.map_take, sum_neg]; omega⟩
theorem cas_rev (st : List Int) : cas st.reverse = cas st := by
  refine cas_flip st.sum fun x => ?_
  rw [joints_mem, joints_mem, List.length_reverse]
  have key : ∀ k, k ≤ st.length → (st.reverse.take k).sum = st.sum - (st.take (st.length - k)).sum := fun k hk => by
    rw [List.take_reverse, List.sum_reverse]
    have := congrArg List.sum (List.take_append_drop (st.length - k) st)
    rw [List.sum_append] at this
    omega
  constructor
  · rintro ⟨k, hk, rfl⟩
    exact ⟨st.length - k, by omega, by rw [key k hk]; omega⟩
  · rintro ⟨k, hk, e⟩
    refine ⟨st.length - k, by omega, ?_⟩
    rw [key _ (by omega), show st.length - (st.length - k) = k by omega]; omega
theorem steps_neg : ∀ (rs : List Int) (bs : List Bool), steps rs (bs.map (!·)) = (steps rs bs).map fun x => 0 - x
  | [], _ => rfl
  | _ :: _, [] => rfl
  | r :: rs, b :: bs => by
    have ih := steps_neg rs bs
    unfold steps at ih ⊢
    rw [List.map_cons, List.zipWith_cons_cons, List.zipWith_cons_cons, List.map_cons, ih]
    cases b <;> simp <;> omega
theorem steps_rev {rs : List Int} {bs : List Bool} (h : bs.length = rs.length) : steps rs.reverse bs.reverse = (steps rs bs).reverse := by
  unfold steps
  rw [List.reverse_zipWith h.symm]
/-- told from behind -/
def back (bs : List Bool) : List Bool := bs.reverse.map fun b => if bs.getLastD false then b else !b
theorem back_way {rs : List Int} {bs : List Bool} (hr : Rul rs) (h : Way rs bs) : Way rs.reverse (back bs) := by
  have hl := hr.len
  refine ⟨by unfold back; simp [h.1], ?_⟩
  obtain ⟨ys, a, rfl⟩ : ∃ ys a, bs = ys ++ [a] := ⟨_, _, (List.dropLast_concat_getLast (fun e => by have := h.1; rw [e] at this; simp at this; omega)).symm⟩
  unfold back
  cases a <;> simp
theorem Rul.rev {rs : List Int} (h : Rul rs) : Rul rs.reverse := ⟨fun e => h.1 (by simpa using e), fun x hx => h.2.1 x (List.mem_reverse.mp hx), by rw [List.length_reverse]; exact h.2.2⟩
theorem back_cas {rs : List Int} {bs : List Bool} (h : bs.length = rs.length) : cas (steps rs.reverse (back bs)) = cas (steps rs bs) := by
  unfold back
  cases bs.getLastD false with
  | true =>
    have : (bs.reverse.map fun b => if true then b else !b) = bs.reverse := by simp
    rw [this, steps_rev h, cas_rev]
  | false =>
    have : (bs.reverse.map fun b => if false then b else !b) = bs.reverse.map (!·) := by simp
    rw [this, steps_neg, cas_neg, steps_rev h, cas_rev]
end Law
end
section
set_option maxRecDepth 100000
set_option maxHeartbeats 4000000
namespace Law
open PySem L2 Fh
theorem appL (xs : List D) (d : D) (h : xs.length < 16777216) : appD (.list xs) d = .ok (.list (xs ++ [d])) := by
  show (if xs.length < SZ then _ else _) = _
  rw [if_pos h]
theorem slH_W (bs : List Bool) (i : Int) (h : 0 ≤ i) : prim .slH [dW bs, .int i] = .ok (dW (bs.take i.toNat)) := by rw [dW, p_slH, cut_map, cut_to _ _ h, dW]
theorem slL_W (bs : List Bool) (i : Int) (h : 0 ≤ i) : prim .slL [dW bs, .int i] = .ok (dW (bs.drop i.toNat)) := by rw [dW, p_slL, cut_map, cut_from _ _ h, dW]
theorem add_WL (bs : List Bool) (ys : List D) (h : bs.length + ys.length ≤ 16777216) : prim .add [dW bs, .list ys] = .ok (.list (bs.map way ++ ys)) := by
  rw [dW, p_addl _ _ (by simpa using h)]
theorem add_LW (ys : List D) (bs : List Bool) (h : ys.length + bs.length ≤ 16777216) : prim .add [.list ys, dW bs] = .ok (.list (ys ++ bs.map way)) := by
  rw [dW, p_addl _ _ (by simpa using h)]
theorem rev_W (bs : List Bool) : prim .slR [dW bs] = .ok (dW bs.reverse) := by rw [dW, p_rev, dW, List.map_reverse]
theorem tup_W (bs : List Bool) : prim .tupof [dW bs] = .ok (.tup (bs.map way)) := rfl
theorem len_W (bs : List Bool) : prim .len [dW bs] = .ok (.int bs.length) := by
  show R.ok (D.int ((bs.map way).length : Nat)) = _
  rw [List.length_map]
theorem last_W (bs : List Bool) (a : Bool) : prim .idx [dW (bs ++ [a]), .int (-1)] = .ok (way a) := by
  refine p_idx _ _ _ ?_
  unfold at?
  rw [if_neg (by omega), if_pos (by simp; omega)]
  have e : ((-1 : Int) + (((bs ++ [a]).map way).length : Int)).toNat = (bs.map way).length := by simp; omega
  rw [e, List.map_append, List.getElem?_append_right (Nat.le_refl _)]
  simp
section
variable {wf : Nat}
abbrev E16 (g : Option D) (rs : List Int) (bs : List Bool) (told : Option D) (vs : D) (odd val : Option D) (kept : D) (at_ : Int) (nd : Int) (due shown : Option D) : DEnv :=
  [g, some (dI rs), some (dW bs), told, some vs, odd, val, none, some kept, some (.int at_), some (dI (joints (steps rs bs))), some (.int nd), due, shown, none, none]
/-- values with an odd word -/
theorem l20_1 {rs : List Int} {bs : List Bool} (hr : Rul rs) (hw : Way rs bs) (vs : List D) (hv : ∀ d ∈ vs, Val d) (hl : vs.length ≤ 100) (g told : Option D) (kept : D) (a : Nat) (nd : Int) (c : Fh.Callee) :
    ∃ us o, (∀ d ∈ us, Val d) ∧ us.length ≤ 200 ∧ run GG c wf f20_l1 (E16 g rs bs told (.list vs) none none kept a nd none none) = .nx (E16 g rs bs told (.list us) o none kept a nd none none) := by
  have hrl := hr.len
  have hb := hw.1
  have hi : evIt GG c (.over (.lst (.cons (.cst .non) (.cons (.cst (.str (cs []))) (.cons (.cst (.str (cs [82]))) (.cons (.cst (.str (cs [114, 108]))) (.cons (.cst (.str (cs [108, 101, 102, 116]))) (.cons (.cst (.int 1)) (.cons (.cst (.bool true)) (.cons (.lst (.cons (.cst (.str (cs [114]))) .nil)) (.cons (.tup (.cons (.cst (.str (cs [114]))) .nil)) (.cons (.cst (.str (cs [108]))) (.cons (.cst (.str (cs [114]))) .nil))))))))))))) (E16 g rs bs told (.list vs) none none kept a nd none none) = .ok ([.non, .str (cs []), .str (cs [82]), .str (cs [114, 108]), .str (cs [108, 101, 102, 116]), .int 1, .bool true, .list [.str (cs [114])], .tup [.str (cs [114])], .str (cs [108]), .str (cs [114])], E16 g rs bs told (.list vs) none none kept a nd none none) := by
    rw [it_id]; simp -implicitDefEqProofs (disch := omega) only [E16, qm_cst, qm_var, qm_glo, m_kV, qm_prim, m_kPrim, qm_bop, qm_ife, m_kIfe, m_kIfeT, m_kIfeF, qm_lst, qm_tup, m_kLst, m_kTup, qm_dct, qm_chain, m_kCh1, m_kCh2, m_kCh3T, m_kCh3F, m_kCh4, qm_call, m_kCall, m_kRet, m_kRetX, qm_callio, m_kIo0, m_kIo1, m_kIo2L, m_kIo2I, m_kRio, m_callq', m_kQ1, m_kQ2, m_kQ3, m_callz', m_kZ1, m_kZ2b, m_kZ2i, m_evs0, m_evs1, m_kS1, m_kC, m_o0, m_ovar, m_kV1, m_kV2, m_kV3, m_ocst, m_oglo, m_oprim, m_obop, m_oife, m_olst, m_otup, m_odct, m_ochain, m_ocall, m_ocallio, m_ocallq, m_ocallz, m_ocomp, m_kO1, m_b1, m_b2, m_kB1, m_kBtt, m_kBff, m_kBtf, m_kBft, m_f0, m_f1, m_kF1, m_kF2t, m_kF2f, m_over, m_kOver, m_range, m_kRange, m_enum, m_kEnum, m_zip, m_kZip, m_zips, m_kZips, m_kXs, m_r0, m_r1, m_seqN, m_seqR, m_seqB, m_seqC, m_asg, m_kAsg, m_asgT, m_kAsgT, m_kEnv, m_par, m_kPar, m_setix, m_kSt1, m_kSt2, m_kSt3, m_kSt4, m_kPut, m_app, m_kAp1L, m_kAp1I, m_kAp2, m_kAp3, m_ins, m_kIn1L, m_kIn1I, m_kIn2, m_kIn3, m_kIn4, m_spoil, m_kSpo, m_exp, m_kExp, m_ite, m_kIte, m_kIttT, m_kIttF, m_for, m_kFor, m_ret, m_kRt, m_retv, m_kRv, m_pass, m_brk, m_cnt, m_turnN, m_turnC, m_turnR, m_turnB, m_some, m_eltT, m_eltF, getV_0, getV_s, set_0, set_s, truth_b, truth_i, truth_n, zipf_0, zipf_s, tg_1, tg_2, tg_3, wipe_0, wipe_s,
    isTyL, isTyI, isTy, pis_int, pis_bool, pis_non, pis_str, pis_list, pis_tup, pis_dict, p_add, p_sub, p_neg, p_lt, p_le, p_gt, p_ge, p_eqi, p_nei, p_eqb, p_neb, p_eqs, p_nes, p_notb, p_isN, p_isnN, p_len, p_lent, p_lenI, p_int, p_intb, p_bitlen, p_abs, p_max2, p_min2, p_rev, p_revI, p_tupof, p_listof, p_sumI, p_allb, p_anyb, p_idx0, p_idx1, p_idx2,
    items_L, items_I, rtv_rt, rtio_rt, rtio_nx, Bool.not_true, Bool.not_false, Bool.false_eq_true, Bool.true_eq_false, ↓reduceIte, if_true, if_false, beq_self_eq_true, bne_self_eq_false, decide_true, decide_false, id]
  have hatm : ∀ d ∈ ([.non, .str (cs []), .str (cs [82]), .str (cs [114, 108]), .str (cs [108, 101, 102, 116]), .int 1, .bool true, .list [.str (cs [114])], .tup [.str (cs [114])], .str (cs [108]), .str (cs [114])] : List D), Atm d := by
    intro d hd
    simp only [List.mem_cons, List.not_mem_nil, or_false] at hd
    rcases hd with rfl | rfl | rfl | rfl | rfl | rfl | rfl | rfl | rfl | rfl | rfl <;> exact ⟨rfl, by decide +kernel⟩
  obtain ⟨r, e, us, o, h1, h2, rfl⟩ := forLoop_inv (Tg.one 5).set (fun r => runs GG c wf f20_b1 r) (fun j ρ => ∃ (us : List D) (o : Option D), (∀ d ∈ us, Val d) ∧ us.length = vs.length + j ∧ ρ = E16 g rs bs told (.list us) o none kept a nd none none) [.non, .str (cs []), .str (cs [82]), .str (cs [114, 108]), .str (cs [108, 101, 102, 116]), .int 1, .bool true, .list [.str (cs [114])], .tup [.str (cs [114])], .str (cs [108]), .str (cs [114])] 0 (E16 g rs bs told (.list vs) none none kept a nd none none) ⟨vs, none, hv, rfl, rfl⟩ (by
    rintro j d _ hj ⟨us, o, h1, h2, rfl⟩
    have hlt : j < 11 := (List.getElem?_eq_some_iff.mp hj).1
    have hd := hatm d (List.mem_of_getElem? hj)
    have q1 := slH_W bs a (by omega)
    have q2 := slL_W bs ((a : Int) + 1) (by omega)
    have q3 := add_WL (bs.take (a : Int).toNat) [d] (by simp; omega)
    have q4 := add_LW ((bs.take (a : Int).toNat).map way ++ [d]) (bs.drop ((a : Int) + 1).toNat) (by simp; omega)
    have q5 := appL us (.list ((bs.take (a : Int).toNat).map way ++ [d] ++ (bs.drop ((a : Int) + 1).toNat).map way)) (by omega)
    refine ⟨E16 g rs bs told (.list (us ++ [.list ((bs.take (a : Int).toNat).map way ++ [d] ++ (bs.drop ((a : Int) + 1).toNat).map way)])) (some d) none kept a nd none none, ?_, us ++ [.list ((bs.take (a : Int).toNat).map way ++ [d] ++ (bs.drop ((a : Int) + 1).toNat).map way)], some d, ?_, ?_, rfl⟩
    · rw [turnF_eq rfl]
      simp -implicitDefEqProofs (disch := omega) only [E16, f20_b1, qm_cst, qm_var, qm_glo, m_kV, qm_prim, m_kPrim, qm_bop, qm_ife, m_kIfe, m_kIfeT, m_kIfeF, qm_lst, qm_tup, m_kLst, m_kTup, qm_dct, qm_chain, m_kCh1, m_kCh2, m_kCh3T, m_kCh3F, m_kCh4, qm_call, m_kCall, m_kRet, m_kRetX, qm_callio, m_kIo0, m_kIo1, m_kIo2L, m_kIo2I, m_kRio, m_callq', m_kQ1, m_kQ2, m_kQ3, m_callz', m_kZ1, m_kZ2b, m_kZ2i, m_evs0, m_evs1, m_kS1, m_kC, m_o0, m_ovar, m_kV1, m_kV2, m_kV3, m_ocst, m_oglo, m_oprim, m_obop, m_oife, m_olst, m_otup, m_odct, m_ochain, m_ocall, m_ocallio, m_ocallq, m_ocallz, m_ocomp, m_kO1, m_b1, m_b2, m_kB1, m_kBtt, m_kBff, m_kBtf, m_kBft, m_f0, m_f1, m_kF1, m_kF2t, m_kF2f, m_over, m_kOver, m_range, m_kRange, m_enum, m_kEnum, m_zip, m_kZip, m_zips, m_kZips, m_kXs, m_r0, m_r1, m_seqN, m_seqR, m_seqB, m_seqC, m_asg, m_kAsg, m_asgT, m_kAsgT, m_kEnv, m_par, m_kPar, m_setix, m_kSt1, m_kSt2, m_kSt3, m_kSt4, m_kPut, m_app, m_kAp1L, m_kAp1I, m_kAp2, m_kAp3, m_ins, m_kIn1L, m_kIn1I, m_kIn2, m_kIn3, m_kIn4, m_spoil, m_kSpo, m_exp, m_kExp, m_ite, m_kIte, m_kIttT, m_kIttF, m_for, m_kFor, m_ret, m_kRt, m_retv, m_kRv, m_pass, m_brk, m_cnt, m_turnN, m_turnC, m_turnR, m_turnB, m_some, m_eltT, m_eltF, getV_0, getV_s, set_0, set_s, truth_b, truth_i, truth_n, zipf_0, zipf_s, tg_1, tg_2, tg_3, wipe_0, wipe_s,
    isTyL, isTyI, isTy, pis_int, pis_bool, pis_non, pis_str, pis_list, pis_tup, pis_dict, p_add, p_sub, p_neg, p_lt, p_le, p_gt, p_ge, p_eqi, p_nei, p_eqb, p_neb, p_eqs, p_nes, p_notb, p_isN, p_isnN, p_len, p_lent, p_lenI, p_int, p_intb, p_bitlen, p_abs, p_max2, p_min2, p_rev, p_revI, p_tupof, p_listof, p_sumI, p_allb, p_anyb, p_idx0, p_idx1, p_idx2,
    items_L, items_I, rtv_rt, rtio_rt, rtio_nx, Bool.not_true, Bool.not_false, Bool.false_eq_true, Bool.true_eq_false, ↓reduceIte, if_true, if_false, beq_self_eq_true, bne_self_eq_false, decide_true, decide_false, q1, q2, q3, q4, q5]
    · intro x hx
      rcases List.mem_append.mp hx with hx | hx
      · exact h1 x hx
      · rw [List.mem_singleton] at hx
        subst hx
        refine .list ?_ (by simp; omega)
        intro y hy
        rcases List.mem_append.mp hy with hy | hy
        · rcases List.mem_append.mp hy with hy | hy
          · exact Atm.ways y hy
          · rw [List.mem_singleton] at hy; subst hy; exact hd
        · exact Atm.ways y hy
    · rw [List.length_append, h2]; simp; omega)
  refine ⟨us, o, h1, by rw [h2]; simp; omega, ?_⟩
  unfold f20_l1
  rw [run_for, hi, R.out_ok, e]
theorem same_bb (a : Bool) (n : Nat) : callD PP GG wf (n + 2) 15 [.list [.bool a, .bool a], .list [.bool a, .bool a]] = .ok (.bool true, none) := same_refl (wf := wf) 1 _ (by rw [smD, decide_eq_true (by show 2 ≤ 16777216; omega)]; rfl) n
theorem same_ii (a : Int) (n : Nat) : callD PP GG wf (n + 2) 15 [.list [.int a, .int a], .list [.int a, .int a]] = .ok (.bool true, none) := same_refl (wf := wf) 1 _ (by rw [smD, decide_eq_true (by show 2 ≤ 16777216; omega)]; rfl) n
theorem same_II (xs : List Int) (h : xs.length ≤ 1000) (n : Nat) : callD PP GG wf (n + 3) 15 [.list [dI xs, dI xs], .list [dI xs, dI xs]] = .ok (.bool true, none) := same_refl (wf := wf) 2 _ (by
    rw [smD, decide_eq_true (by show 2 ≤ 16777216; omega), smL, smL, smL, smD_I 0 xs (by show _ ≤ 16777216; omega)]; rfl) n
theorem l20_0 {rs : List Int} {bs : List Bool} (hr : Rul rs) (vs : List D) (hv : ∀ d ∈ vs, Val d) (g told o : Option D) (kept : D) (a : Nat) (nd : Int) (n : Nat) :
    ∃ v w x, run GG (callD PP GG wf (n + 4)) wf f20_l0 (E16 g rs bs told (.list vs) o none kept a nd none none) = .nx (E16 g rs bs told (.list vs) o v kept a nd w x) := by
  have hi : evIt GG (callD PP GG wf (n + 4)) (.over (.var 4)) (E16 g rs bs told (.list vs) o none kept a nd none none) = .ok (vs, E16 g rs bs told (.list vs) o none kept a nd none none) := by
    rw [it_id]; simp -implicitDefEqProofs (disch := omega) only [E16, qm_cst, qm_var, qm_glo, m_kV, qm_prim, m_kPrim, qm_bop, qm_ife, m_kIfe, m_kIfeT, m_kIfeF, qm_lst, qm_tup, m_kLst, m_kTup, qm_dct, qm_chain, m_kCh1, m_kCh2, m_kCh3T, m_kCh3F, m_kCh4, qm_call, m_kCall, m_kRet, m_kRetX, qm_callio, m_kIo0, m_kIo1, m_kIo2L, m_kIo2I, m_kRio, m_callq', m_kQ1, m_kQ2, m_kQ3, m_callz', m_kZ1, m_kZ2b, m_kZ2i, m_evs0, m_evs1, m_kS1, m_kC, m_o0, m_ovar, m_kV1, m_kV2, m_kV3, m_ocst, m_oglo, m_oprim, m_obop, m_oife, m_olst, m_otup, m_odct, m_ochain, m_ocall, m_ocallio, m_ocallq, m_ocallz, m_ocomp, m_kO1, m_b1, m_b2, m_kB1, m_kBtt, m_kBff, m_kBtf, m_kBft, m_f0, m_f1, m_kF1, m_kF2t, m_kF2f, m_over, m_kOver, m_range, m_kRange, m_enum, m_kEnum, m_zip, m_kZip, m_zips, m_kZips, m_kXs, m_r0, m_r1, m_seqN, m_seqR, m_seqB, m_seqC, m_asg, m_kAsg, m_asgT, m_kAsgT, m_kEnv, m_par, m_kPar, m_setix, m_kSt1, m_kSt2, m_kSt3, m_kSt4, m_kPut, m_app, m_kAp1L, m_kAp1I, m_kAp2, m_kAp3, m_ins, m_kIn1L, m_kIn1I, m_kIn2, m_kIn3, m_kIn4, m_spoil, m_kSpo, m_exp, m_kExp, m_ite, m_kIte, m_kIttT, m_kIttF, m_for, m_kFor, m_ret, m_kRt, m_retv, m_kRv, m_pass, m_brk, m_cnt, m_turnN, m_turnC, m_turnR, m_turnB, m_some, m_eltT, m_eltF, getV_0, getV_s, set_0, set_s, truth_b, truth_i, truth_n, zipf_0, zipf_s, tg_1, tg_2, tg_3, wipe_0, wipe_s,
    isTyL, isTyI, isTy, pis_int, pis_bool, pis_non, pis_str, pis_list, pis_tup, pis_dict, p_add, p_sub, p_neg, p_lt, p_le, p_gt, p_ge, p_eqi, p_nei, p_eqb, p_neb, p_eqs, p_nes, p_notb, p_isN, p_isnN, p_len, p_lent, p_lenI, p_int, p_intb, p_bitlen, p_abs, p_max2, p_min2, p_rev, p_revI, p_tupof, p_listof, p_sumI, p_allb, p_anyb, p_idx0, p_idx1, p_idx2,
    items_L, items_I, rtv_rt, rtio_rt, rtio_nx, Bool.not_true, Bool.not_false, Bool.false_eq_true, Bool.true_eq_false, ↓reduceIte, if_true, if_false, beq_self_eq_true, bne_self_eq_false, decide_true, decide_false, id]
  obtain ⟨r, e, v, w, x, rfl⟩ := forLoop_inv (Tg.one 6).set (fun r => runs GG (callD PP GG wf (n + 4)) wf f20_b0 r) (fun j ρ => ∃ v w x : Option D, ρ = E16 g rs bs told (.list vs) o v kept a nd w x) vs 0 (E16 g rs bs told (.list vs) o none kept a nd none none) ⟨_, _, _, rfl⟩ (by
    rintro j d _ hj ⟨v, w, x, rfl⟩
    obtain ⟨h1, s, hs⟩ := hv d (List.mem_of_getElem? hj)
    have k1 := law_are_ways (wf := wf) hr d h1 (n + 3)
    have k2 := are_laid (wf := wf) hr d h1 n
    have k3 := are_laidK (wf := wf) hr d h1 n
    have k4 := same_bb (wf := wf) (isLW rs.length d) (n + 2)
    refine ⟨E16 g rs bs told (.list vs) o (some d) kept a nd (some (.bool (isLW rs.length d))) (some (.str s)), ?_, some d, some (.bool (isLW rs.length d)), some (.str s), rfl⟩
    rw [turnF_eq rfl]
    simp -implicitDefEqProofs (disch := omega) only [E16, f20_b0, qm_cst, qm_var, qm_glo, m_kV, qm_prim, m_kPrim, qm_bop, qm_ife, m_kIfe, m_kIfeT, m_kIfeF, qm_lst, qm_tup, m_kLst, m_kTup, qm_dct, qm_chain, m_kCh1, m_kCh2, m_kCh3T, m_kCh3F, m_kCh4, qm_call, m_kCall, m_kRet, m_kRetX, qm_callio, m_kIo0, m_kIo1, m_kIo2L, m_kIo2I, m_kRio, m_callq', m_kQ1, m_kQ2, m_kQ3, m_callz', m_kZ1, m_kZ2b, m_kZ2i, m_evs0, m_evs1, m_kS1, m_kC, m_o0, m_ovar, m_kV1, m_kV2, m_kV3, m_ocst, m_oglo, m_oprim, m_obop, m_oife, m_olst, m_otup, m_odct, m_ochain, m_ocall, m_ocallio, m_ocallq, m_ocallz, m_ocomp, m_kO1, m_b1, m_b2, m_kB1, m_kBtt, m_kBff, m_kBtf, m_kBft, m_f0, m_f1, m_kF1, m_kF2t, m_kF2f, m_over, m_kOver, m_range, m_kRange, m_enum, m_kEnum, m_zip, m_kZip, m_zips, m_kZips, m_kXs, m_r0, m_r1, m_seqN, m_seqR, m_seqB, m_seqC, m_asg, m_kAsg, m_asgT, m_kAsgT, m_kEnv, m_par, m_kPar, m_setix, m_kSt1, m_kSt2, m_kSt3, m_kSt4, m_kPut, m_app, m_kAp1L, m_kAp1I, m_kAp2, m_kAp3, m_ins, m_kIn1L, m_kIn1I, m_kIn2, m_kIn3, m_kIn4, m_spoil, m_kSpo, m_exp, m_kExp, m_ite, m_kIte, m_kIttT, m_kIttF, m_for, m_kFor, m_ret, m_kRt, m_retv, m_kRv, m_pass, m_brk, m_cnt, m_turnN, m_turnC, m_turnR, m_turnB, m_some, m_eltT, m_eltF, getV_0, getV_s, set_0, set_s, truth_b, truth_i, truth_n, zipf_0, zipf_s, tg_1, tg_2, tg_3, wipe_0, wipe_s,
    isTyL, isTyI, isTy, pis_int, pis_bool, pis_non, pis_str, pis_list, pis_tup, pis_dict, p_add, p_sub, p_neg, p_lt, p_le, p_gt, p_ge, p_eqi, p_nei, p_eqb, p_neb, p_eqs, p_nes, p_notb, p_isN, p_isnN, p_len, p_lent, p_lenI, p_int, p_intb, p_bitlen, p_abs, p_max2, p_min2, p_rev, p_revI, p_tupof, p_listof, p_sumI, p_allb, p_anyb, p_idx0, p_idx1, p_idx2,
    items_L, items_I, rtv_rt, rtio_rt, rtio_nx, Bool.not_true, Bool.not_false, Bool.false_eq_true, Bool.true_eq_false, ↓reduceIte, if_true, if_false, beq_self_eq_true, bne_self_eq_false, decide_true, decide_false, k1, k2, k3, k4, hs])
  refine ⟨v, w, x, ?_⟩
  unfold f20_l0
  rw [run_for, hi, R.out_ok, e]
end
end Law
end
section
set_option maxRecDepth 100000
set_option maxHeartbeats 4000000
namespace Law
open PySem L2 Fh
theorem joints_len (st : List Int) : (joints st).length = st.length + 1 := jN_len st _
theorem Atm.ruler {rs : List Int} (h : Rul rs) : Atm (dI rs) := by
  refine ⟨shp_I 10 rs, ?_⟩
  have h1 : ∀ d ∈ rs.map D.int, wt d ≤ 12 := fun d hd => by
    obtain ⟨i, hi, rfl⟩ := List.mem_map.mp hd
    have hx := h.2.1 i hi
    have h3 : i.natAbs.log2 < 10 := (Nat.log2_lt (by omega)).mpr (by omega)
    show (if _ then _ else _) ≤ _
    rw [if_pos (by omega)]; omega
  have := wts_of h1
  rw [List.length_map] at this
  have := h.2.2
  show wts _ + 2 ≤ _
  omega
theorem Atm.wayl {bs : List Bool} (h : bs.length ≤ 20) : Atm (dW bs) := by
  refine ⟨shp_list (shps_W 10 bs), ?_⟩
  have h1 : ∀ d ∈ bs.map Law.way, wt d ≤ 12 := fun d hd => by
    obtain ⟨i, hi, rfl⟩ := List.mem_map.mp hd
    cases i <;> decide +kernel
  have := wts_of h1
  rw [List.length_map] at this
  show wts _ + 2 ≤ _
  omega
theorem back1_len (bs : List Bool) (q : Bool → Bool) : (bs.reverse.map q).length = bs.length := by simp
section
variable {wf : Nat}
theorem c20_1 (ys : List Bool) (a : Bool) (hl : ys.length ≤ 100) (g r1 r3 r4 r5 r6 r7 r8 r9 r10 r11 r12 r13 r15 : Option D) (c : Fh.Callee) :
    ev GG c f20_c1 [g, r1, some (dW (ys ++ [a])), r3, r4, r5, r6, r7, r8, r9, r10, r11, r12, r13, none, r15] = .ok (dW ((ys ++ [a]).reverse.map fun b => if a then !b else b), [g, r1, some (dW (ys ++ [a])), r3, r4, r5, r6, r7, r8, r9, r10, r11, r12, r13, none, r15]) := by
  have hi : evIt GG c (.over (.prim .slR (.cons (.var 2) .nil))) [g, r1, some (dW (ys ++ [a])), r3, r4, r5, r6, r7, r8, r9, r10, r11, r12, r13, none, r15] = .ok ((ys ++ [a]).reverse.map way, [g, r1, some (dW (ys ++ [a])), r3, r4, r5, r6, r7, r8, r9, r10, r11, r12, r13, none, r15]) := by
    have hit : itemsOf (dW (ys ++ [a]).reverse) = .ok ((ys ++ [a]).reverse.map way) := rfl
    rw [it_id]; simp -implicitDefEqProofs (disch := omega) only [qm_cst, qm_var, qm_glo, m_kV, qm_prim, m_kPrim, qm_bop, qm_ife, m_kIfe, m_kIfeT, m_kIfeF, qm_lst, qm_tup, m_kLst, m_kTup, qm_dct, qm_chain, m_kCh1, m_kCh2, m_kCh3T, m_kCh3F, m_kCh4, qm_call, m_kCall, m_kRet, m_kRetX, qm_callio, m_kIo0, m_kIo1, m_kIo2L, m_kIo2I, m_kRio, m_callq', m_kQ1, m_kQ2, m_kQ3, m_callz', m_kZ1, m_kZ2b, m_kZ2i, m_evs0, m_evs1, m_kS1, m_kC, m_o0, m_ovar, m_kV1, m_kV2, m_kV3, m_ocst, m_oglo, m_oprim, m_obop, m_oife, m_olst, m_otup, m_odct, m_ochain, m_ocall, m_ocallio, m_ocallq, m_ocallz, m_ocomp, m_kO1, m_b1, m_b2, m_kB1, m_kBtt, m_kBff, m_kBtf, m_kBft, m_f0, m_f1, m_kF1, m_kF2t, m_kF2f, m_over, m_kOver, m_range, m_kRange, m_enum, m_kEnum, m_zip, m_kZip, m_zips, m_kZips, m_kXs, m_r0, m_r1, m_seqN, m_seqR, m_seqB, m_seqC, m_asg, m_kAsg, m_asgT, m_kAsgT, m_kEnv, m_par, m_kPar, m_setix, m_kSt1, m_kSt2, m_kSt3, m_kSt4, m_kPut, m_app, m_kAp1L, m_kAp1I, m_kAp2, m_kAp3, m_ins, m_kIn1L, m_kIn1I, m_kIn2, m_kIn3, m_kIn4, m_spoil, m_kSpo, m_exp, m_kExp, m_ite, m_kIte, m_kIttT, m_kIttF, m_for, m_kFor, m_ret, m_kRt, m_retv, m_kRv, m_pass, m_brk, m_cnt, m_turnN, m_turnC, m_turnR, m_turnB, m_some, m_eltT, m_eltF, getV_0, getV_s, set_0, set_s, truth_b, truth_i, truth_n, zipf_0, zipf_s, tg_1, tg_2, tg_3, wipe_0, wipe_s,
    isTyL, isTyI, isTy, pis_int, pis_bool, pis_non, pis_str, pis_list, pis_tup, pis_dict, p_add, p_sub, p_neg, p_lt, p_le, p_gt, p_ge, p_eqi, p_nei, p_eqb, p_neb, p_eqs, p_nes, p_notb, p_isN, p_isnN, p_len, p_lent, p_lenI, p_int, p_intb, p_bitlen, p_abs, p_max2, p_min2, p_rev, p_revI, p_tupof, p_listof, p_sumI, p_allb, p_anyb, p_idx0, p_idx1, p_idx2,
    items_L, items_I, rtv_rt, rtio_rt, rtio_nx, Bool.not_true, Bool.not_false, Bool.false_eq_true, Bool.true_eq_false, ↓reduceIte, if_true, if_false, beq_self_eq_true, bne_self_eq_false, decide_true, decide_false, rev_W, hit, id]
  unfold f20_c1
  refine (comp_pure _ _ _ _ _ _ _ _ (fun d => match d with | .str s => some (way (if a then !(s == cs [114]) else (s == cs [114]))) | _ => none) hi (by show _ ≤ 16777216; simp; omega) (fun d hd => ?_)).trans ?_
  · obtain ⟨b, _, rfl⟩ := List.mem_map.mp hd
    refine ⟨[g, r1, some (dW (ys ++ [a])), r3, r4, r5, r6, r7, r8, r9, r10, r11, r12, r13, some (way b), r15], rfl, ?_⟩
    rw [turnC_eq rfl]
    have q1 := last_W ys a
    cases a <;> cases b <;> (simp -implicitDefEqProofs (disch := omega) only [qm_cst, qm_var, qm_glo, m_kV, qm_prim, m_kPrim, qm_bop, qm_ife, m_kIfe, m_kIfeT, m_kIfeF, qm_lst, qm_tup, m_kLst, m_kTup, qm_dct, qm_chain, m_kCh1, m_kCh2, m_kCh3T, m_kCh3F, m_kCh4, qm_call, m_kCall, m_kRet, m_kRetX, qm_callio, m_kIo0, m_kIo1, m_kIo2L, m_kIo2I, m_kRio, m_callq', m_kQ1, m_kQ2, m_kQ3, m_callz', m_kZ1, m_kZ2b, m_kZ2i, m_evs0, m_evs1, m_kS1, m_kC, m_o0, m_ovar, m_kV1, m_kV2, m_kV3, m_ocst, m_oglo, m_oprim, m_obop, m_oife, m_olst, m_otup, m_odct, m_ochain, m_ocall, m_ocallio, m_ocallq, m_ocallz, m_ocomp, m_kO1, m_b1, m_b2, m_kB1, m_kBtt, m_kBff, m_kBtf, m_kBft, m_f0, m_f1, m_kF1, m_kF2t, m_kF2f, m_over, m_kOver, m_range, m_kRange, m_enum, m_kEnum, m_zip, m_kZip, m_zips, m_kZips, m_kXs, m_r0, m_r1, m_seqN, m_seqR, m_seqB, m_seqC, m_asg, m_kAsg, m_asgT, m_kAsgT, m_kEnv, m_par, m_kPar, m_setix, m_kSt1, m_kSt2, m_kSt3, m_kSt4, m_kPut, m_app, m_kAp1L, m_kAp1I, m_kAp2, m_kAp3, m_ins, m_kIn1L, m_kIn1I, m_kIn2, m_kIn3, m_kIn4, m_spoil, m_kSpo, m_exp, m_kExp, m_ite, m_kIte, m_kIttT, m_kIttF, m_for, m_kFor, m_ret, m_kRt, m_retv, m_kRv, m_pass, m_brk, m_cnt, m_turnN, m_turnC, m_turnR, m_turnB, m_some, m_eltT, m_eltF, getV_0, getV_s, set_0, set_s, truth_b, truth_i, truth_n, zipf_0, zipf_s, tg_1, tg_2, tg_3, wipe_0, wipe_s,
    isTyL, isTyI, isTy, pis_int, pis_bool, pis_non, pis_str, pis_list, pis_tup, pis_dict, p_add, p_sub, p_neg, p_lt, p_le, p_gt, p_ge, p_eqi, p_nei, p_eqb, p_neb, p_eqs, p_nes, p_notb, p_isN, p_isnN, p_len, p_lent, p_lenI, p_int, p_intb, p_bitlen, p_abs, p_max2, p_min2, p_rev, p_revI, p_tupof, p_listof, p_sumI, p_allb, p_anyb, p_idx0, p_idx1, p_idx2,
    items_L, items_I, rtv_rt, rtio_rt, rtio_nx, Bool.not_true, Bool.not_false, Bool.false_eq_true, Bool.true_eq_false, ↓reduceIte, if_true, if_false, beq_self_eq_true, bne_self_eq_false, decide_true, decide_false, q1, way_eq, way_eql]; rfl)
  · congr 3
    rw [List.filterMap_map, List.map_map, ← List.filterMap_eq_map]
    congr 1
    funext b
    cases a <;> cases b <;> rfl
theorem c20_0 (xs : List Bool) (hl : xs.length ≤ 100) (g r1 r2 r3 r4 r5 r6 r8 r9 r10 r11 r12 r13 r15 : Option D) (c : Fh.Callee) :
    ev GG c f20_c0 [g, r1, r2, r3, r4, r5, r6, some (dW xs), r8, r9, r10, r11, r12, r13, none, r15] = .ok (dW (xs.map (!·)), [g, r1, r2, r3, r4, r5, r6, some (dW xs), r8, r9, r10, r11, r12, r13, none, r15]) := by
  have hi : evIt GG c (.over (.var 7)) [g, r1, r2, r3, r4, r5, r6, some (dW xs), r8, r9, r10, r11, r12, r13, none, r15] = .ok (xs.map way, [g, r1, r2, r3, r4, r5, r6, some (dW xs), r8, r9, r10, r11, r12, r13, none, r15]) := by
    have hit : itemsOf (dW xs) = .ok (xs.map way) := rfl
    rw [it_id]; simp -implicitDefEqProofs (disch := omega) only [qm_cst, qm_var, qm_glo, m_kV, qm_prim, m_kPrim, qm_bop, qm_ife, m_kIfe, m_kIfeT, m_kIfeF, qm_lst, qm_tup, m_kLst, m_kTup, qm_dct, qm_chain, m_kCh1, m_kCh2, m_kCh3T, m_kCh3F, m_kCh4, qm_call, m_kCall, m_kRet, m_kRetX, qm_callio, m_kIo0, m_kIo1, m_kIo2L, m_kIo2I, m_kRio, m_callq', m_kQ1, m_kQ2, m_kQ3, m_callz', m_kZ1, m_kZ2b, m_kZ2i, m_evs0, m_evs1, m_kS1, m_kC, m_o0, m_ovar, m_kV1, m_kV2, m_kV3, m_ocst, m_oglo, m_oprim, m_obop, m_oife, m_olst, m_otup, m_odct, m_ochain, m_ocall, m_ocallio, m_ocallq, m_ocallz, m_ocomp, m_kO1, m_b1, m_b2, m_kB1, m_kBtt, m_kBff, m_kBtf, m_kBft, m_f0, m_f1, m_kF1, m_kF2t, m_kF2f, m_over, m_kOver, m_range, m_kRange, m_enum, m_kEnum, m_zip, m_kZip, m_zips, m_kZips, m_kXs, m_r0, m_r1, m_seqN, m_seqR, m_seqB, m_seqC, m_asg, m_kAsg, m_asgT, m_kAsgT, m_kEnv, m_par, m_kPar, m_setix, m_kSt1, m_kSt2, m_kSt3, m_kSt4, m_kPut, m_app, m_kAp1L, m_kAp1I, m_kAp2, m_kAp3, m_ins, m_kIn1L, m_kIn1I, m_kIn2, m_kIn3, m_kIn4, m_spoil, m_kSpo, m_exp, m_kExp, m_ite, m_kIte, m_kIttT, m_kIttF, m_for, m_kFor, m_ret, m_kRt, m_retv, m_kRv, m_pass, m_brk, m_cnt, m_turnN, m_turnC, m_turnR, m_turnB, m_some, m_eltT, m_eltF, getV_0, getV_s, set_0, set_s, truth_b, truth_i, truth_n, zipf_0, zipf_s, tg_1, tg_2, tg_3, wipe_0, wipe_s,
    isTyL, isTyI, isTy, pis_int, pis_bool, pis_non, pis_str, pis_list, pis_tup, pis_dict, p_add, p_sub, p_neg, p_lt, p_le, p_gt, p_ge, p_eqi, p_nei, p_eqb, p_neb, p_eqs, p_nes, p_notb, p_isN, p_isnN, p_len, p_lent, p_lenI, p_int, p_intb, p_bitlen, p_abs, p_max2, p_min2, p_rev, p_revI, p_tupof, p_listof, p_sumI, p_allb, p_anyb, p_idx0, p_idx1, p_idx2,
    items_L, items_I, rtv_rt, rtio_rt, rtio_nx, Bool.not_true, Bool.not_false, Bool.false_eq_true, Bool.true_eq_false, ↓reduceIte, if_true, if_false, beq_self_eq_true, bne_self_eq_false, decide_true, decide_false, hit, id]
  unfold f20_c0
  refine (comp_pure _ _ _ _ _ _ _ _ (fun d => match d with | .str s => some (way (!(s == cs [114]))) | _ => none) hi (by show _ ≤ 16777216; simp; omega) (fun d hd => ?_)).trans ?_
  · obtain ⟨b, _, rfl⟩ := List.mem_map.mp hd
    refine ⟨[g, r1, r2, r3, r4, r5, r6, some (dW xs), r8, r9, r10, r11, r12, r13, some (way b), r15], rfl, ?_⟩
    rw [turnC_eq rfl]
    cases b <;> (simp -implicitDefEqProofs (disch := omega) only [qm_cst, qm_var, qm_glo, m_kV, qm_prim, m_kPrim, qm_bop, qm_ife, m_kIfe, m_kIfeT, m_kIfeF, qm_lst, qm_tup, m_kLst, m_kTup, qm_dct, qm_chain, m_kCh1, m_kCh2, m_kCh3T, m_kCh3F, m_kCh4, qm_call, m_kCall, m_kRet, m_kRetX, qm_callio, m_kIo0, m_kIo1, m_kIo2L, m_kIo2I, m_kRio, m_callq', m_kQ1, m_kQ2, m_kQ3, m_callz', m_kZ1, m_kZ2b, m_kZ2i, m_evs0, m_evs1, m_kS1, m_kC, m_o0, m_ovar, m_kV1, m_kV2, m_kV3, m_ocst, m_oglo, m_oprim, m_obop, m_oife, m_olst, m_otup, m_odct, m_ochain, m_ocall, m_ocallio, m_ocallq, m_ocallz, m_ocomp, m_kO1, m_b1, m_b2, m_kB1, m_kBtt, m_kBff, m_kBtf, m_kBft, m_f0, m_f1, m_kF1, m_kF2t, m_kF2f, m_over, m_kOver, m_range, m_kRange, m_enum, m_kEnum, m_zip, m_kZip, m_zips, m_kZips, m_kXs, m_r0, m_r1, m_seqN, m_seqR, m_seqB, m_seqC, m_asg, m_kAsg, m_asgT, m_kAsgT, m_kEnv, m_par, m_kPar, m_setix, m_kSt1, m_kSt2, m_kSt3, m_kSt4, m_kPut, m_app, m_kAp1L, m_kAp1I, m_kAp2, m_kAp3, m_ins, m_kIn1L, m_kIn1I, m_kIn2, m_kIn3, m_kIn4, m_spoil, m_kSpo, m_exp, m_kExp, m_ite, m_kIte, m_kIttT, m_kIttF, m_for, m_kFor, m_ret, m_kRt, m_retv, m_kRv, m_pass, m_brk, m_cnt, m_turnN, m_turnC, m_turnR, m_turnB, m_some, m_eltT, m_eltF, getV_0, getV_s, set_0, set_s, truth_b, truth_i, truth_n, zipf_0, zipf_s, tg_1, tg_2, tg_3, wipe_0, wipe_s,
    isTyL, isTyI, isTy, pis_int, pis_bool, pis_non, pis_str, pis_list, pis_tup, pis_dict, p_add, p_sub, p_neg, p_lt, p_le, p_gt, p_ge, p_eqi, p_nei, p_eqb, p_neb, p_eqs, p_nes, p_notb, p_isN, p_isnN, p_len, p_lent, p_lenI, p_int, p_intb, p_bitlen, p_abs, p_max2, p_min2, p_rev, p_revI, p_tupof, p_listof, p_sumI, p_allb, p_anyb, p_idx0, p_idx1, p_idx2,
    items_L, items_I, rtv_rt, rtio_rt, rtio_nx, Bool.not_true, Bool.not_false, Bool.false_eq_true, Bool.true_eq_false, ↓reduceIte, if_true, if_false, beq_self_eq_true, bne_self_eq_false, decide_true, decide_false, way_eq]; rfl)
  · congr 3
    rw [List.filterMap_map, List.map_map, ← List.filterMap_eq_map]
    congr 1
    funext b
    cases b <;> rfl
theorem mul_W (b : Bool) (n : Nat) (h : n ≤ 1000) : prim .mul [.list [way b], .int n] = .ok (dW (List.replicate n b)) := by
  rw [p_mull _ _ (by omega) (by simp; omega), Int.toNat_natCast, rep_ones, dW, List.map_replicate]
theorem right {b : Nat} {g : Gn} (hg : GOk (b + 8) g) {rs : List Int} (hr : Rul rs) (n : Nat) : ∃ g', GOk b g' ∧ callD PP GG wf (n + 6) 20 [g.d, dI rs] = .ok (.bool true, some (Gn.d g')) := by
  have hl := hr.len
  obtain ⟨tb, g1, ht, hg1, e1⟩ := c20_2 (wf := wf) (b := b + 1) hr hg (n + 2)
  obtain ⟨bs, hbs⟩ : ∃ bs, bs = true :: tb := ⟨_, rfl⟩
  have hbl : bs.length = rs.length := by rw [hbs, List.length_cons]; omega
  have hw : Way rs bs := ⟨hbl, by rw [hbs]; rfl⟩
  have q1 : prim .add [.list [.str (cs [114])], dW tb] = .ok (dW bs) := by rw [hbs]; exact add_LW [way true] tb (by simp; omega)
  obtain ⟨-, s, hs⟩ : Val (.list [dI rs, dW bs]) := .list (fun d hd => by
    simp only [List.mem_cons, List.not_mem_nil, or_false] at hd
    rcases hd with rfl | rfl
    · exact .ruler hr
    · exact .wayl (by omega)) (by simp)
  obtain ⟨a, g2, ha, hg2, e2⟩ := rnd (wf := wf) (b := b) hg1 (m := (bs.length : Int)) (by omega) (n + 3)
  obtain ⟨a, rfl⟩ : ∃ k : Nat, a = (k : Int) := ⟨a.toNat, by omega⟩
  have k1 := law_joints (wf := wf) (by omega) hbl (n + 4)
  have k2 := law_needed (wf := wf) (by omega) hbl (n + 3)
  have k3 := joints_of (wf := wf) hr hw n
  have k4 := joints_ofK (wf := wf) hr hw n
  have k5 := case_of (wf := wf) hr hw n
  have k6 := case_ofK (wf := wf) hr hw n
  have hjl := joints_len (steps rs bs)
  rw [steps_len hbl] at hjl
  have s1 := same_II (wf := wf) (joints (steps rs bs)) (by omega) (n + 2)
  have s2 := same_ii (wf := wf) (cas (steps rs bs)) (n + 3)
  have q2 : appD (dI (joints (steps rs bs))) .non = .ok (.list ((joints (steps rs bs)).map D.int ++ [.non])) := appL _ _ (by simp; omega)
  have q3 : prim .mul [.list [.str (cs [114])], .int bs.length] = .ok (dW (List.replicate bs.length true)) := mul_W true _ (by omega)
  have q4 : prim .mul [.list [.str (cs [108])], .int bs.length] = .ok (dW (List.replicate bs.length false)) := mul_W false _ (by omega)
  have q5 := slL_W bs 1 (by omega)
  have q6 : prim .add [dW bs, .list [.str (cs [114])]] = .ok (dW (bs ++ [true])) := by rw [add_WL _ _ (by simp; omega), dW, List.map_append]; rfl
  have q7 := tup_W bs
  have q8 := p_joinW bs (by omega)
  have q9 := rev_W bs
  have hwv : ∀ xs : List Bool, xs.length ≤ 100 → Val (dW xs) := fun xs h => .list Atm.ways (by simpa using h)
  obtain ⟨us, o, hv, hul, e3⟩ := l20_1 (wf := wf) hr hw [dW bs, dW (List.replicate bs.length true), dW (List.replicate bs.length false), dW (bs.drop (Int.toNat 1)), dW (bs ++ [true]), .tup (bs.map way), .str (Txt.join (cs []) (bs.map fun b => if b then cs [114] else cs [108])), .non, .tup [], .list [], .dict [] [], dW bs.reverse] (by
    intro d hd
    simp only [List.mem_cons, List.not_mem_nil, or_false] at hd
    rcases hd with rfl | rfl | rfl | rfl | rfl | rfl | rfl | rfl | rfl | rfl | rfl | rfl
    · exact hwv _ (by omega)
    · exact hwv _ (by simp; omega)
    · exact hwv _ (by simp; omega)
    · exact hwv _ (by simp; omega)
    · exact hwv _ (by simp; omega)
    · exact .tup Atm.ways (by simp; omega)
    · exact .join bs (by omega)
    · exact .of rfl (by decide)
    · exact .of rfl (by decide)
    · exact .of rfl (by decide)
    · exact .dict
    · exact hwv _ (by simp; omega)) (by simp) (some g2.d) (some (.list ((joints (steps rs bs)).map D.int ++ [.non]))) (.str s) a (cas (steps rs bs)) (callD PP GG wf (n + 5))
  obtain ⟨v, w, x, e4⟩ := l20_0 (wf := wf) (bs := bs) hr us hv (some g2.d) (some (.list ((joints (steps rs bs)).map D.int ++ [.non]))) o (.str s) a (cas (steps rs bs)) (n + 1)
  obtain ⟨ys, z, hyz⟩ : ∃ ys z, bs = ys ++ [z] := ⟨_, _, (List.dropLast_concat_getLast (fun e => by rw [e] at hbl; simp at hbl; omega)).symm⟩
  have hyl : ys.length ≤ 100 := by have := congrArg List.length hyz; simp at this; omega
  have k7 := case_of (wf := wf) hr.rev (back_way hr hw) n
  rw [back_cas hbl] at k7
  have e5 := c20_1 ys z hyl (some g2.d) (some (dI rs)) (some (.list ((joints (steps rs bs)).map D.int ++ [.non]))) (some (.list us)) o v none (some (.str s)) (some (.int (a : Int))) (some (dI (joints (steps rs bs)))) (some (.int (cas (steps rs bs)))) w x none (callD PP GG wf (n + 5))
  rw [← hyz] at e5
  have hh : prim .idx [dW (bs.reverse.map fun b => if z then !b else b), .int 0] = .ok (way false) := by
    rw [hyz, List.reverse_append]
    show prim .idx [.list (way (if z then !z else z) :: _), .int 0] = _
    rw [p_idx0]
    cases z <;> rfl
  have hbk : (bs.reverse.map fun b => if z then !b else b).map (!·) = back bs := by
    unfold back
    rw [List.map_map]
    have h0 : bs.getLastD false = z := by rw [hyz]; simp
    rw [h0]
    refine List.map_congr_left fun b _ => ?_
    cases z <;> cases b <;> rfl
  have e6 := c20_0 (bs.reverse.map fun b => if z then !b else b) (by simp; omega) (some g2.d) (some (dI rs)) (some (dW bs)) (some (.list ((joints (steps rs bs)).map D.int ++ [.non]))) (some (.list us)) o v (some (.str s)) (some (.int (a : Int))) (some (dI (joints (steps rs bs)))) (some (.int (cas (steps rs bs)))) w x none (callD PP GG wf (n + 5))
  rw [hbk] at e6
  refine ⟨g2, hg2, ?_⟩
  refine callD_io (fd := f20) (ρ := [some g.d, some (dI rs), none, none, none, none, none, none, none, none, none, none, none, none, none, none]) rfl rfl rfl rfl (.inr rfl) ?_
  rw [runs_aIO]
  simp only [e16, E16] at e1 e3 e4
  simp -implicitDefEqProofs (disch := omega) only [f20, qm_cst, qm_var, qm_glo, m_kV, qm_prim, m_kPrim, qm_bop, qm_ife, m_kIfe, m_kIfeT, m_kIfeF, qm_lst, qm_tup, m_kLst, m_kTup, qm_dct, qm_chain, m_kCh1, m_kCh2, m_kCh3T, m_kCh3F, m_kCh4, qm_call, m_kCall, m_kRet, m_kRetX, qm_callio, m_kIo0, m_kIo1, m_kIo2L, m_kIo2I, m_kRio, m_callq', m_kQ1, m_kQ2, m_kQ3, m_callz', m_kZ1, m_kZ2b, m_kZ2i, m_evs0, m_evs1, m_kS1, m_kC, m_o0, m_ovar, m_kV1, m_kV2, m_kV3, m_ocst, m_oglo, m_oprim, m_obop, m_oife, m_olst, m_otup, m_odct, m_ochain, m_ocall, m_ocallio, m_ocallq, m_ocallz, m_ocomp, m_kO1, m_b1, m_b2, m_kB1, m_kBtt, m_kBff, m_kBtf, m_kBft, m_f0, m_f1, m_kF1, m_kF2t, m_kF2f, m_over, m_kOver, m_range, m_kRange, m_enum, m_kEnum, m_zip, m_kZip, m_zips, m_kZips, m_kXs, m_r0, m_r1, m_seqN, m_seqR, m_seqB, m_seqC, m_asg, m_kAsg, m_asgT, m_kAsgT, m_kEnv, m_par, m_kPar, m_setix, m_kSt1, m_kSt2, m_kSt3, m_kSt4, m_kPut, m_app, m_kAp1L, m_kAp1I, m_kAp2, m_kAp3, m_ins, m_kIn1L, m_kIn1I, m_kIn2, m_kIn3, m_kIn4, m_spoil, m_kSpo, m_exp, m_kExp, m_ite, m_kIte, m_kIttT, m_kIttF, m_for, m_kFor, m_ret, m_kRt, m_retv, m_kRv, m_pass, m_brk, m_cnt, m_turnN, m_turnC, m_turnR, m_turnB, m_some, m_eltT, m_eltF, getV_0, getV_s, set_0, set_s, truth_b, truth_i, truth_n, zipf_0, zipf_s, tg_1, tg_2, tg_3, wipe_0, wipe_s,
    isTyL, isTyI, isTy, pis_int, pis_bool, pis_non, pis_str, pis_list, pis_tup, pis_dict, p_add, p_sub, p_neg, p_lt, p_le, p_gt, p_ge, p_eqi, p_nei, p_eqb, p_neb, p_eqs, p_nes, p_notb, p_isN, p_isnN, p_len, p_lent, p_lenI, p_int, p_intb, p_bitlen, p_abs, p_max2, p_min2, p_rev, p_revI, p_tupof, p_listof, p_sumI, p_allb, p_anyb, p_idx0, p_idx1, p_idx2,
    items_L, items_I, rtv_rt, rtio_rt, rtio_nx, Bool.not_true, Bool.not_false, Bool.false_eq_true, Bool.true_eq_false, ↓reduceIte, if_true, if_false, beq_self_eq_true, bne_self_eq_false, decide_true, decide_false, m_kIo2G, f20_c2_ops, aE_of e1, q1, hs, len_W, e2, k1, k2, k3, k4, k5, k6, s1, s2, q2, q3, q4, q5, q6, q7, q8, q9, aT_of e3, aT_of e4, aE_of e5, hh, way_eql, aE_of e6, k7]
end
end Law
end
section
set_option maxRecDepth 100000
set_option maxHeartbeats 4000000
namespace Law
open PySem L2 Fh
section
variable {wf : Nat}
theorem l21_1 {b : Nat} {g : Gn} (hg : GOk (b + 34) g) (z i u v w : Option D) (n : Nat) :
    ∃ g' u' rs, Rul rs ∧ run GG (callD PP GG wf (n + 6)) wf f21_l1 [z, i, some g.d, u, v, w] = .nx [z, i, some (Gn.d g'), u', v, some (dI rs)] := by
  have hi : evIt GG (callD PP GG wf (n + 6)) (.over (.lst (.cons (.cst (.int 3)) (.cons (.cst (.int 60)) .nil)))) [z, i, some g.d, u, v, w] = .ok ([.int 3, .int 60], [z, i, some g.d, u, v, w]) := by
    rw [it_id]; simp -implicitDefEqProofs (disch := omega) only [qm_cst, qm_var, qm_glo, m_kV, qm_prim, m_kPrim, qm_bop, qm_ife, m_kIfe, m_kIfeT, m_kIfeF, qm_lst, qm_tup, m_kLst, m_kTup, qm_dct, qm_chain, m_kCh1, m_kCh2, m_kCh3T, m_kCh3F, m_kCh4, qm_call, m_kCall, m_kRet, m_kRetX, qm_callio, m_kIo0, m_kIo1, m_kIo2L, m_kIo2I, m_kRio, m_callq', m_kQ1, m_kQ2, m_kQ3, m_callz', m_kZ1, m_kZ2b, m_kZ2i, m_evs0, m_evs1, m_kS1, m_kC, m_o0, m_ovar, m_kV1, m_kV2, m_kV3, m_ocst, m_oglo, m_oprim, m_obop, m_oife, m_olst, m_otup, m_odct, m_ochain, m_ocall, m_ocallio, m_ocallq, m_ocallz, m_ocomp, m_kO1, m_b1, m_b2, m_kB1, m_kBtt, m_kBff, m_kBtf, m_kBft, m_f0, m_f1, m_kF1, m_kF2t, m_kF2f, m_over, m_kOver, m_range, m_kRange, m_enum, m_kEnum, m_zip, m_kZip, m_zips, m_kZips, m_kXs, m_r0, m_r1, m_seqN, m_seqR, m_seqB, m_seqC, m_asg, m_kAsg, m_asgT, m_kAsgT, m_kEnv, m_par, m_kPar, m_setix, m_kSt1, m_kSt2, m_kSt3, m_kSt4, m_kPut, m_app, m_kAp1L, m_kAp1I, m_kAp2, m_kAp3, m_ins, m_kIn1L, m_kIn1I, m_kIn2, m_kIn3, m_kIn4, m_spoil, m_kSpo, m_exp, m_kExp, m_ite, m_kIte, m_kIttT, m_kIttF, m_for, m_kFor, m_ret, m_kRt, m_retv, m_kRv, m_pass, m_brk, m_cnt, m_turnN, m_turnC, m_turnR, m_turnB, m_some, m_eltT, m_eltF, getV_0, getV_s, set_0, set_s, truth_b, truth_i, truth_n, zipf_0, zipf_s, tg_1, tg_2, tg_3, wipe_0, wipe_s,
    isTyL, isTyI, isTy, pis_int, pis_bool, pis_non, pis_str, pis_list, pis_tup, pis_dict, p_add, p_sub, p_neg, p_lt, p_le, p_gt, p_ge, p_eqi, p_nei, p_eqb, p_neb, p_eqs, p_nes, p_notb, p_isN, p_isnN, p_len, p_lent, p_lenI, p_int, p_intb, p_bitlen, p_abs, p_max2, p_min2, p_rev, p_revI, p_tupof, p_listof, p_sumI, p_allb, p_anyb, p_idx0, p_idx1, p_idx2,
    items_L, items_I, rtv_rt, rtio_rt, rtio_nx, Bool.not_true, Bool.not_false, Bool.false_eq_true, Bool.true_eq_false, ↓reduceIte, if_true, if_false, beq_self_eq_true, bne_self_eq_false, decide_true, decide_false, id]
  have step : ∀ {b : Nat} {g : Gn} (hg : GOk (b + 17) g) (far : Int) (hf : 0 < far ∧ far ≤ 60) (u w : Option D), ∃ g' rs, GOk b g' ∧ Rul rs ∧ turnF (Tg.one 3).set (fun r => runs GG (callD PP GG wf (n + 6)) wf f21_b1 r) (.int far) [z, i, some g.d, u, v, w] = .nx [z, i, some (Gn.d g'), some (.int far), v, some (dI rs)] := by
    intro b g hg far hf u w
    obtain ⟨rs, g1, hr, hg1, e1⟩ := ruler (wf := wf) (b := b + 8) hg hf (n + 3)
    obtain ⟨g2, hg2, e2⟩ := right (wf := wf) hg1 hr n
    have k1 := is_ruler (wf := wf) (dI rs) hr.ok (n + 4)
    rw [hr.isR] at k1
    have k2 := same_bb (wf := wf) true (n + 4)
    refine ⟨g2, rs, hg2, hr, ?_⟩
    rw [turnF_eq rfl]
    simp -implicitDefEqProofs (disch := omega) only [f21_b1, qm_cst, qm_var, qm_glo, m_kV, qm_prim, m_kPrim, qm_bop, qm_ife, m_kIfe, m_kIfeT, m_kIfeF, qm_lst, qm_tup, m_kLst, m_kTup, qm_dct, qm_chain, m_kCh1, m_kCh2, m_kCh3T, m_kCh3F, m_kCh4, qm_call, m_kCall, m_kRet, m_kRetX, qm_callio, m_kIo0, m_kIo1, m_kIo2L, m_kIo2I, m_kRio, m_callq', m_kQ1, m_kQ2, m_kQ3, m_callz', m_kZ1, m_kZ2b, m_kZ2i, m_evs0, m_evs1, m_kS1, m_kC, m_o0, m_ovar, m_kV1, m_kV2, m_kV3, m_ocst, m_oglo, m_oprim, m_obop, m_oife, m_olst, m_otup, m_odct, m_ochain, m_ocall, m_ocallio, m_ocallq, m_ocallz, m_ocomp, m_kO1, m_b1, m_b2, m_kB1, m_kBtt, m_kBff, m_kBtf, m_kBft, m_f0, m_f1, m_kF1, m_kF2t, m_kF2f, m_over, m_kOver, m_range, m_kRange, m_enum, m_kEnum, m_zip, m_kZip, m_zips, m_kZips, m_kXs, m_r0, m_r1, m_seqN, m_seqR, m_seqB, m_seqC, m_asg, m_kAsg, m_asgT, m_kAsgT, m_kEnv, m_par, m_kPar, m_setix, m_kSt1, m_kSt2, m_kSt3, m_kSt4, m_kPut, m_app, m_kAp1L, m_kAp1I, m_kAp2, m_kAp3, m_ins, m_kIn1L, m_kIn1I, m_kIn2, m_kIn3, m_kIn4, m_spoil, m_kSpo, m_exp, m_kExp, m_ite, m_kIte, m_kIttT, m_kIttF, m_for, m_kFor, m_ret, m_kRt, m_retv, m_kRv, m_pass, m_brk, m_cnt, m_turnN, m_turnC, m_turnR, m_turnB, m_some, m_eltT, m_eltF, getV_0, getV_s, set_0, set_s, truth_b, truth_i, truth_n, zipf_0, zipf_s, tg_1, tg_2, tg_3, wipe_0, wipe_s,
    isTyL, isTyI, isTy, pis_int, pis_bool, pis_non, pis_str, pis_list, pis_tup, pis_dict, p_add, p_sub, p_neg, p_lt, p_le, p_gt, p_ge, p_eqi, p_nei, p_eqb, p_neb, p_eqs, p_nes, p_notb, p_isN, p_isnN, p_len, p_lent, p_lenI, p_int, p_intb, p_bitlen, p_abs, p_max2, p_min2, p_rev, p_revI, p_tupof, p_listof, p_sumI, p_allb, p_anyb, p_idx0, p_idx1, p_idx2,
    items_L, items_I, rtv_rt, rtio_rt, rtio_nx, Bool.not_true, Bool.not_false, Bool.false_eq_true, Bool.true_eq_false, ↓reduceIte, if_true, if_false, beq_self_eq_true, bne_self_eq_false, decide_true, decide_false, m_kIo2G, e1, e2, k1, k2]
  obtain ⟨g1, rs1, hg1, hr1, e1⟩ := step (b := b + 17) (hg.mono (by omega)) 3 (by omega) u w
  obtain ⟨g2, rs2, hg2, hr2, e2⟩ := step (b := b) hg1 60 (by omega) (some (.int 3)) (some (dI rs1))
  refine ⟨g2, some (.int 60), rs2, hr2, ?_⟩
  unfold f21_l1
  rw [run_for, hi, R.out_ok, forLoop_step _ _ _ _ _ _ e1, forLoop_step _ _ _ _ _ _ e2]
  rfl
theorem isR_snoc (rs : List Int) (d : D) (h : posW d = false) : isR (.list (rs.map D.int ++ [d])) = false := by
  show (!(rs.map D.int ++ [d]).isEmpty && (rs.map D.int ++ [d]).all posW) = false
  rw [List.all_append]
  simp [h]
theorem snoc_val {rs : List Int} (hr : Rul rs) (d : D) (h : Atm d) : Ok1 (.list (rs.map D.int ++ [d])) := by
  have hl := hr.len
  refine (Val.list (fun x hx => ?_) (by simp; omega)).1
  rcases List.mem_append.mp hx with hx | hx
  · obtain ⟨y, hy, rfl⟩ := List.mem_map.mp hx
    have := hr.2.1 y hy
    exact .int (by omega)
  · rw [List.mem_singleton] at hx; subst hx; exact h
theorem l21_0 {rs : List Int} (hr : Rul rs) (z i g u v : Option D) (n : Nat) :
    ∃ v', run GG (callD PP GG wf (n + 6)) wf f21_l0 [z, i, g, u, v, some (dI rs)] = .nx [z, i, g, u, v', some (dI rs)] := by
  have hl := hr.len
  have a1 : ∀ d : D, prim .add [dI rs, .list [d]] = .ok (.list (rs.map D.int ++ [d])) := fun d => p_addIL rs [d] (by simp; omega)
  have a2 : ∀ d : D, prim .add [.list [d], dI rs] = .ok (.list ([d] ++ rs.map D.int)) := fun d => p_addLI [d] rs (by simp; omega)
  have a3 : prim .tupof [dI rs] = .ok (.tup (rs.map D.int)) := rfl
  have hi : ∃ L, (∀ d ∈ L, Ok1 d ∧ isR d = false) ∧ evIt GG (callD PP GG wf (n + 6)) (.over (.lst (.cons (.cst .non) (.cons (.tup .nil) (.cons (.lst .nil) (.cons .dct (.cons (.cst (.str (cs [114, 117, 108, 101, 114]))) (.cons (.prim .tupof (.cons (.var 5) .nil)) (.cons (.prim .add (.cons (.var 5) (.cons (.lst (.cons (.cst (.int 0)) .nil)) .nil))) (.cons (.prim .add (.cons (.var 5) (.cons (.lst (.cons (.prim .neg (.cons (.cst (.int 1)) .nil)) .nil)) .nil))) (.cons (.prim .add (.cons (.var 5) (.cons (.lst (.cons (.cst (.bool true)) .nil)) .nil))) (.cons (.prim .add (.cons (.var 5) (.cons (.lst (.cons (.cst .non) .nil)) .nil))) (.cons (.prim .add (.cons (.lst (.cons (.cst (.str (cs [52]))) .nil)) (.cons (.var 5) .nil))) (.cons (.lst (.cons (.var 5) .nil)) (.cons (.prim .add (.cons (.var 5) (.cons (.lst (.cons (.tup (.cons (.cst (.int 1)) .nil)) .nil)) .nil))) .nil))))))))))))))) [z, i, g, u, v, some (dI rs)] = .ok (L, [z, i, g, u, v, some (dI rs)]) := by
    refine ⟨[.non, .tup [], .list [], .dict [] [], .str (cs [114, 117, 108, 101, 114]), .tup (rs.map D.int), .list (rs.map D.int ++ [.int 0]), .list (rs.map D.int ++ [.int (-1)]), .list (rs.map D.int ++ [.bool true]), .list (rs.map D.int ++ [.non]), .list ([.str (cs [52])] ++ rs.map D.int), .list [dI rs], .list (rs.map D.int ++ [.tup [.int 1]])], ?_, ?_⟩
    · intro d hd
      simp only [List.mem_cons, List.not_mem_nil, or_false] at hd
      have hat : ∀ d ∈ rs.map D.int, Atm d := fun d hd => by
        obtain ⟨y, hy, rfl⟩ := List.mem_map.mp hd
        have := hr.2.1 y hy
        exact .int (by omega)
      rcases hd with rfl | rfl | rfl | rfl | rfl | rfl | rfl | rfl | rfl | rfl | rfl | rfl | rfl
      · exact ⟨(Val.of rfl (by decide)).1, rfl⟩
      · exact ⟨(Val.of rfl (by decide)).1, rfl⟩
      · exact ⟨(Val.of rfl (by decide)).1, rfl⟩
      · exact ⟨Val.dict.1, rfl⟩
      · exact ⟨(Val.of rfl (by decide +kernel)).1, rfl⟩
      · exact ⟨(Val.tup hat (by simp; omega)).1, rfl⟩
      · exact ⟨snoc_val hr _ ⟨rfl, by decide +kernel⟩, isR_snoc _ _ rfl⟩
      · exact ⟨snoc_val hr _ ⟨rfl, by decide +kernel⟩, isR_snoc _ _ rfl⟩
      · exact ⟨snoc_val hr _ ⟨rfl, by decide +kernel⟩, isR_snoc _ _ rfl⟩
      · exact ⟨snoc_val hr _ ⟨rfl, by decide +kernel⟩, isR_snoc _ _ rfl⟩
      · refine ⟨(Val.list (fun x hx => ?_) (by simp; omega)).1, rfl⟩
        rcases List.mem_append.mp hx with hx | hx
        · rw [List.mem_singleton] at hx; subst hx; exact ⟨rfl, by decide +kernel⟩
        · exact hat x hx
      · refine ⟨(Val.list (fun x hx => ?_) (by simp)).1, rfl⟩
        rw [List.mem_singleton] at hx; subst hx; exact .ruler hr
      · exact ⟨snoc_val hr _ ⟨rfl, by decide +kernel⟩, isR_snoc _ _ rfl⟩
    · rw [it_id]; simp -implicitDefEqProofs (disch := omega) only [qm_cst, qm_var, qm_glo, m_kV, qm_prim, m_kPrim, qm_bop, qm_ife, m_kIfe, m_kIfeT, m_kIfeF, qm_lst, qm_tup, m_kLst, m_kTup, qm_dct, qm_chain, m_kCh1, m_kCh2, m_kCh3T, m_kCh3F, m_kCh4, qm_call, m_kCall, m_kRet, m_kRetX, qm_callio, m_kIo0, m_kIo1, m_kIo2L, m_kIo2I, m_kRio, m_callq', m_kQ1, m_kQ2, m_kQ3, m_callz', m_kZ1, m_kZ2b, m_kZ2i, m_evs0, m_evs1, m_kS1, m_kC, m_o0, m_ovar, m_kV1, m_kV2, m_kV3, m_ocst, m_oglo, m_oprim, m_obop, m_oife, m_olst, m_otup, m_odct, m_ochain, m_ocall, m_ocallio, m_ocallq, m_ocallz, m_ocomp, m_kO1, m_b1, m_b2, m_kB1, m_kBtt, m_kBff, m_kBtf, m_kBft, m_f0, m_f1, m_kF1, m_kF2t, m_kF2f, m_over, m_kOver, m_range, m_kRange, m_enum, m_kEnum, m_zip, m_kZip, m_zips, m_kZips, m_kXs, m_r0, m_r1, m_seqN, m_seqR, m_seqB, m_seqC, m_asg, m_kAsg, m_asgT, m_kAsgT, m_kEnv, m_par, m_kPar, m_setix, m_kSt1, m_kSt2, m_kSt3, m_kSt4, m_kPut, m_app, m_kAp1L, m_kAp1I, m_kAp2, m_kAp3, m_ins, m_kIn1L, m_kIn1I, m_kIn2, m_kIn3, m_kIn4, m_spoil, m_kSpo, m_exp, m_kExp, m_ite, m_kIte, m_kIttT, m_kIttF, m_for, m_kFor, m_ret, m_kRt, m_retv, m_kRv, m_pass, m_brk, m_cnt, m_turnN, m_turnC, m_turnR, m_turnB, m_some, m_eltT, m_eltF, getV_0, getV_s, set_0, set_s, truth_b, truth_i, truth_n, zipf_0, zipf_s, tg_1, tg_2, tg_3, wipe_0, wipe_s,
    isTyL, isTyI, isTy, pis_int, pis_bool, pis_non, pis_str, pis_list, pis_tup, pis_dict, p_add, p_sub, p_neg, p_lt, p_le, p_gt, p_ge, p_eqi, p_nei, p_eqb, p_neb, p_eqs, p_nes, p_notb, p_isN, p_isnN, p_len, p_lent, p_lenI, p_int, p_intb, p_bitlen, p_abs, p_max2, p_min2, p_rev, p_revI, p_tupof, p_listof, p_sumI, p_allb, p_anyb, p_idx0, p_idx1, p_idx2,
    items_L, items_I, rtv_rt, rtio_rt, rtio_nx, Bool.not_true, Bool.not_false, Bool.false_eq_true, Bool.true_eq_false, ↓reduceIte, if_true, if_false, beq_self_eq_true, bne_self_eq_false, decide_true, decide_false, a1, a2, a3, id]
  obtain ⟨L, hL, hi⟩ := hi
  obtain ⟨r, e, v', rfl⟩ := forLoop_inv (Tg.one 4).set (fun r => runs GG (callD PP GG wf (n + 6)) wf f21_b0 r) (fun j ρ => ∃ v : Option D, ρ = [z, i, g, u, v, some (dI rs)]) L 0 [z, i, g, u, v, some (dI rs)] ⟨_, rfl⟩ (by
    rintro j d _ hj ⟨v, rfl⟩
    obtain ⟨h1, h2⟩ := hL d (List.mem_of_getElem? hj)
    have k1 := is_ruler (wf := wf) d h1 (n + 4)
    rw [h2] at k1
    have k2 := same_bb (wf := wf) false (n + 4)
    refine ⟨[z, i, g, u, some d, some (dI rs)], ?_, some d, rfl⟩
    rw [turnF_eq rfl]
    simp -implicitDefEqProofs (disch := omega) only [f21_b0, qm_cst, qm_var, qm_glo, m_kV, qm_prim, m_kPrim, qm_bop, qm_ife, m_kIfe, m_kIfeT, m_kIfeF, qm_lst, qm_tup, m_kLst, m_kTup, qm_dct, qm_chain, m_kCh1, m_kCh2, m_kCh3T, m_kCh3F, m_kCh4, qm_call, m_kCall, m_kRet, m_kRetX, qm_callio, m_kIo0, m_kIo1, m_kIo2L, m_kIo2I, m_kRio, m_callq', m_kQ1, m_kQ2, m_kQ3, m_callz', m_kZ1, m_kZ2b, m_kZ2i, m_evs0, m_evs1, m_kS1, m_kC, m_o0, m_ovar, m_kV1, m_kV2, m_kV3, m_ocst, m_oglo, m_oprim, m_obop, m_oife, m_olst, m_otup, m_odct, m_ochain, m_ocall, m_ocallio, m_ocallq, m_ocallz, m_ocomp, m_kO1, m_b1, m_b2, m_kB1, m_kBtt, m_kBff, m_kBtf, m_kBft, m_f0, m_f1, m_kF1, m_kF2t, m_kF2f, m_over, m_kOver, m_range, m_kRange, m_enum, m_kEnum, m_zip, m_kZip, m_zips, m_kZips, m_kXs, m_r0, m_r1, m_seqN, m_seqR, m_seqB, m_seqC, m_asg, m_kAsg, m_asgT, m_kAsgT, m_kEnv, m_par, m_kPar, m_setix, m_kSt1, m_kSt2, m_kSt3, m_kSt4, m_kPut, m_app, m_kAp1L, m_kAp1I, m_kAp2, m_kAp3, m_ins, m_kIn1L, m_kIn1I, m_kIn2, m_kIn3, m_kIn4, m_spoil, m_kSpo, m_exp, m_kExp, m_ite, m_kIte, m_kIttT, m_kIttF, m_for, m_kFor, m_ret, m_kRt, m_retv, m_kRv, m_pass, m_brk, m_cnt, m_turnN, m_turnC, m_turnR, m_turnB, m_some, m_eltT, m_eltF, getV_0, getV_s, set_0, set_s, truth_b, truth_i, truth_n, zipf_0, zipf_s, tg_1, tg_2, tg_3, wipe_0, wipe_s,
    isTyL, isTyI, isTy, pis_int, pis_bool, pis_non, pis_str, pis_list, pis_tup, pis_dict, p_add, p_sub, p_neg, p_lt, p_le, p_gt, p_ge, p_eqi, p_nei, p_eqb, p_neb, p_eqs, p_nes, p_notb, p_isN, p_isnN, p_len, p_lent, p_lenI, p_int, p_intb, p_bitlen, p_abs, p_max2, p_min2, p_rev, p_revI, p_tupof, p_listof, p_sumI, p_allb, p_anyb, p_idx0, p_idx1, p_idx2,
    items_L, items_I, rtv_rt, rtio_rt, rtio_nx, Bool.not_true, Bool.not_false, Bool.false_eq_true, Bool.true_eq_false, ↓reduceIte, if_true, if_false, beq_self_eq_true, bne_self_eq_false, decide_true, decide_false, k1, k2])
  refine ⟨v', ?_⟩
  unfold f21_l0
  rw [run_for, hi, R.out_ok, e]
theorem l21_2 (zs : List Int) (n : Nat) : ∃ r1 r2 r3 r4 r5, run GG (callD PP GG wf (n + 6)) wf f21_l2 [some (dI zs), none, none, none, none, none] = .nx [some (dI zs), r1, r2, r3, r4, r5] := by
  have hi : evIt GG (callD PP GG wf (n + 6)) (.range (.cons (.cst (.int 3)) .nil)) [some (dI zs), none, none, none, none, none] = .ok ([.int 0, .int 1, .int 2], [some (dI zs), none, none, none, none, none]) := by
    rw [it_id]; simp -implicitDefEqProofs (disch := omega) only [qm_cst, qm_var, qm_glo, m_kV, qm_prim, m_kPrim, qm_bop, qm_ife, m_kIfe, m_kIfeT, m_kIfeF, qm_lst, qm_tup, m_kLst, m_kTup, qm_dct, qm_chain, m_kCh1, m_kCh2, m_kCh3T, m_kCh3F, m_kCh4, qm_call, m_kCall, m_kRet, m_kRetX, qm_callio, m_kIo0, m_kIo1, m_kIo2L, m_kIo2I, m_kRio, m_callq', m_kQ1, m_kQ2, m_kQ3, m_callz', m_kZ1, m_kZ2b, m_kZ2i, m_evs0, m_evs1, m_kS1, m_kC, m_o0, m_ovar, m_kV1, m_kV2, m_kV3, m_ocst, m_oglo, m_oprim, m_obop, m_oife, m_olst, m_otup, m_odct, m_ochain, m_ocall, m_ocallio, m_ocallq, m_ocallz, m_ocomp, m_kO1, m_b1, m_b2, m_kB1, m_kBtt, m_kBff, m_kBtf, m_kBft, m_f0, m_f1, m_kF1, m_kF2t, m_kF2f, m_over, m_kOver, m_range, m_kRange, m_enum, m_kEnum, m_zip, m_kZip, m_zips, m_kZips, m_kXs, m_r0, m_r1, m_seqN, m_seqR, m_seqB, m_seqC, m_asg, m_kAsg, m_asgT, m_kAsgT, m_kEnv, m_par, m_kPar, m_setix, m_kSt1, m_kSt2, m_kSt3, m_kSt4, m_kPut, m_app, m_kAp1L, m_kAp1I, m_kAp2, m_kAp3, m_ins, m_kIn1L, m_kIn1I, m_kIn2, m_kIn3, m_kIn4, m_spoil, m_kSpo, m_exp, m_kExp, m_ite, m_kIte, m_kIttT, m_kIttF, m_for, m_kFor, m_ret, m_kRt, m_retv, m_kRv, m_pass, m_brk, m_cnt, m_turnN, m_turnC, m_turnR, m_turnB, m_some, m_eltT, m_eltF, getV_0, getV_s, set_0, set_s, truth_b, truth_i, truth_n, zipf_0, zipf_s, tg_1, tg_2, tg_3, wipe_0, wipe_s,
    isTyL, isTyI, isTy, pis_int, pis_bool, pis_non, pis_str, pis_list, pis_tup, pis_dict, p_add, p_sub, p_neg, p_lt, p_le, p_gt, p_ge, p_eqi, p_nei, p_eqb, p_neb, p_eqs, p_nes, p_notb, p_isN, p_isnN, p_len, p_lent, p_lenI, p_int, p_intb, p_bitlen, p_abs, p_max2, p_min2, p_rev, p_revI, p_tupof, p_listof, p_sumI, p_allb, p_anyb, p_idx0, p_idx1, p_idx2,
    items_L, items_I, rtv_rt, rtio_rt, rtio_nx, Bool.not_true, Bool.not_false, Bool.false_eq_true, Bool.true_eq_false, ↓reduceIte, if_true, if_false, beq_self_eq_true, bne_self_eq_false, decide_true, decide_false, range_1, id]; rfl
  obtain ⟨r, e, r1, r2, r3, r4, r5, rfl⟩ := forLoop_inv (Tg.one 1).set (fun r => runs GG (callD PP GG wf (n + 6)) wf f21_b2 r) (fun j ρ => ∃ r1 r2 r3 r4 r5 : Option D, ρ = [some (dI zs), r1, r2, r3, r4, r5]) [.int 0, .int 1, .int 2] 0 [some (dI zs), none, none, none, none, none] ⟨_, _, _, _, _, rfl⟩ (by
    rintro j d _ hj ⟨r1, r2, r3, r4, r5, rfl⟩
    obtain ⟨i, rfl, hi⟩ : ∃ i : Int, d = .int i ∧ 0 ≤ i ∧ i < 1000000 := by
      have := List.mem_of_getElem? hj
      simp only [List.mem_cons, List.not_mem_nil, or_false] at this
      rcases this with rfl | rfl | rfl <;> exact ⟨_, rfl, by decide, by decide⟩
    obtain ⟨g, hg, e⟩ := gen_spec (P := PP) (G := GG) (wf := wf) (f := 13) (q := 12) rfl rfl zs i hi (n + 4)
    obtain ⟨g', u', rs, hr, e2⟩ := l21_1 (wf := wf) (b := 0) (hg.mono (by omega)) (some (dI zs)) (some (.int i)) r3 r4 r5 n
    obtain ⟨v', e3⟩ := l21_0 (wf := wf) hr (some (dI zs)) (some (.int i)) (some g'.d) u' r4 n
    refine ⟨[some (dI zs), some (.int i), some g'.d, u', v', some (dI rs)], ?_, _, _, _, _, _, rfl⟩
    rw [turnF_eq rfl]
    simp -implicitDefEqProofs (disch := omega) only [f21_b2, qm_cst, qm_var, qm_glo, m_kV, qm_prim, m_kPrim, qm_bop, qm_ife, m_kIfe, m_kIfeT, m_kIfeF, qm_lst, qm_tup, m_kLst, m_kTup, qm_dct, qm_chain, m_kCh1, m_kCh2, m_kCh3T, m_kCh3F, m_kCh4, qm_call, m_kCall, m_kRet, m_kRetX, qm_callio, m_kIo0, m_kIo1, m_kIo2L, m_kIo2I, m_kRio, m_callq', m_kQ1, m_kQ2, m_kQ3, m_callz', m_kZ1, m_kZ2b, m_kZ2i, m_evs0, m_evs1, m_kS1, m_kC, m_o0, m_ovar, m_kV1, m_kV2, m_kV3, m_ocst, m_oglo, m_oprim, m_obop, m_oife, m_olst, m_otup, m_odct, m_ochain, m_ocall, m_ocallio, m_ocallq, m_ocallz, m_ocomp, m_kO1, m_b1, m_b2, m_kB1, m_kBtt, m_kBff, m_kBtf, m_kBft, m_f0, m_f1, m_kF1, m_kF2t, m_kF2f, m_over, m_kOver, m_range, m_kRange, m_enum, m_kEnum, m_zip, m_kZip, m_zips, m_kZips, m_kXs, m_r0, m_r1, m_seqN, m_seqR, m_seqB, m_seqC, m_asg, m_kAsg, m_asgT, m_kAsgT, m_kEnv, m_par, m_kPar, m_setix, m_kSt1, m_kSt2, m_kSt3, m_kSt4, m_kPut, m_app, m_kAp1L, m_kAp1I, m_kAp2, m_kAp3, m_ins, m_kIn1L, m_kIn1I, m_kIn2, m_kIn3, m_kIn4, m_spoil, m_kSpo, m_exp, m_kExp, m_ite, m_kIte, m_kIttT, m_kIttF, m_for, m_kFor, m_ret, m_kRt, m_retv, m_kRv, m_pass, m_brk, m_cnt, m_turnN, m_turnC, m_turnR, m_turnB, m_some, m_eltT, m_eltF, getV_0, getV_s, set_0, set_s, truth_b, truth_i, truth_n, zipf_0, zipf_s, tg_1, tg_2, tg_3, wipe_0, wipe_s,
    isTyL, isTyI, isTy, pis_int, pis_bool, pis_non, pis_str, pis_list, pis_tup, pis_dict, p_add, p_sub, p_neg, p_lt, p_le, p_gt, p_ge, p_eqi, p_nei, p_eqb, p_neb, p_eqs, p_nes, p_notb, p_isN, p_isnN, p_len, p_lent, p_lenI, p_int, p_intb, p_bitlen, p_abs, p_max2, p_min2, p_rev, p_revI, p_tupof, p_listof, p_sumI, p_allb, p_anyb, p_idx0, p_idx1, p_idx2,
    items_L, items_I, rtv_rt, rtio_rt, rtio_nx, Bool.not_true, Bool.not_false, Bool.false_eq_true, Bool.true_eq_false, ↓reduceIte, if_true, if_false, beq_self_eq_true, bne_self_eq_false, decide_true, decide_false, e, aT_of e2, aT_of e3])
  refine ⟨r1, r2, r3, r4, r5, ?_⟩
  unfold f21_l2
  rw [run_for, hi, R.out_ok, e]
end
theorem ans : Ans := by
  intro zs _
  show callD PP GG 1000000 (39 + 1) 21 [dI zs] = _
  obtain ⟨r1, r2, r3, r4, r5, e⟩ := l21_2 (wf := 1000000) zs 33
  have c1 : Rul [4, 3, 2, 5] := ⟨by simp, by simp, by simp⟩
  have c2 : Rul [60, 1] := ⟨by simp, by simp, by simp⟩
  have w1 : Way [4, 3, 2, 5] [true, false, true, false] := ⟨rfl, rfl⟩
  have w2 : Way [60, 1] [true, true] := ⟨rfl, rfl⟩
  have k1 : callD PP GG 1000000 39 8 [.list [.int 4, .int 3, .int 2, .int 5], .list [.str (cs [114]), .str (cs [108]), .str (cs [114]), .str (cs [108])]] = .ok (.list [.int 0, .int 4, .int 1, .int 3, .int (-2)], none) := joints_of (wf := 1000000) c1 w1 34
  have k2 : callD PP GG 1000000 39 9 [.list [.int 4, .int 3, .int 2, .int 5], .list [.str (cs [114]), .str (cs [108]), .str (cs [114]), .str (cs [108])]] = .ok (.int 6, none) := case_of (wf := 1000000) c1 w1 34
  have k3 : callD PP GG 1000000 39 9 [.list [.int 60, .int 1], .list [.str (cs [114]), .str (cs [114])]] = .ok (.int 61, none) := case_of (wf := 1000000) c2 w2 34
  have k4 := same_refl (wf := 1000000) 2 (.list [.list [.int 0, .int 4, .int 1, .int 3, .int (-2)], .int 6, .int 61]) (by decide +kernel) 36
  refine callD_v (fd := f21) (ρ := [some (dI zs), none, none, none, none, none]) rfl rfl rfl rfl (.inr rfl) ?_
  rw [runs_aR]
  simp -implicitDefEqProofs (disch := omega) only [f21, qm_cst, qm_var, qm_glo, m_kV, qm_prim, m_kPrim, qm_bop, qm_ife, m_kIfe, m_kIfeT, m_kIfeF, qm_lst, qm_tup, m_kLst, m_kTup, qm_dct, qm_chain, m_kCh1, m_kCh2, m_kCh3T, m_kCh3F, m_kCh4, qm_call, m_kCall, m_kRet, m_kRetX, qm_callio, m_kIo0, m_kIo1, m_kIo2L, m_kIo2I, m_kRio, m_callq', m_kQ1, m_kQ2, m_kQ3, m_callz', m_kZ1, m_kZ2b, m_kZ2i, m_evs0, m_evs1, m_kS1, m_kC, m_o0, m_ovar, m_kV1, m_kV2, m_kV3, m_ocst, m_oglo, m_oprim, m_obop, m_oife, m_olst, m_otup, m_odct, m_ochain, m_ocall, m_ocallio, m_ocallq, m_ocallz, m_ocomp, m_kO1, m_b1, m_b2, m_kB1, m_kBtt, m_kBff, m_kBtf, m_kBft, m_f0, m_f1, m_kF1, m_kF2t, m_kF2f, m_over, m_kOver, m_range, m_kRange, m_enum, m_kEnum, m_zip, m_kZip, m_zips, m_kZips, m_kXs, m_r0, m_r1, m_seqN, m_seqR, m_seqB, m_seqC, m_asg, m_kAsg, m_asgT, m_kAsgT, m_kEnv, m_par, m_kPar, m_setix, m_kSt1, m_kSt2, m_kSt3, m_kSt4, m_kPut, m_app, m_kAp1L, m_kAp1I, m_kAp2, m_kAp3, m_ins, m_kIn1L, m_kIn1I, m_kIn2, m_kIn3, m_kIn4, m_spoil, m_kSpo, m_exp, m_kExp, m_ite, m_kIte, m_kIttT, m_kIttF, m_for, m_kFor, m_ret, m_kRt, m_retv, m_kRv, m_pass, m_brk, m_cnt, m_turnN, m_turnC, m_turnR, m_turnB, m_some, m_eltT, m_eltF, getV_0, getV_s, set_0, set_s, truth_b, truth_i, truth_n, zipf_0, zipf_s, tg_1, tg_2, tg_3, wipe_0, wipe_s,
    isTyL, isTyI, isTy, pis_int, pis_bool, pis_non, pis_str, pis_list, pis_tup, pis_dict, p_add, p_sub, p_neg, p_lt, p_le, p_gt, p_ge, p_eqi, p_nei, p_eqb, p_neb, p_eqs, p_nes, p_notb, p_isN, p_isnN, p_len, p_lent, p_lenI, p_int, p_intb, p_bitlen, p_abs, p_max2, p_min2, p_rev, p_revI, p_tupof, p_listof, p_sumI, p_allb, p_anyb, p_idx0, p_idx1, p_idx2,
    items_L, items_I, rtv_rt, rtio_rt, rtio_nx, Bool.not_true, Bool.not_false, Bool.false_eq_true, Bool.true_eq_false, ↓reduceIte, if_true, if_false, beq_self_eq_true, bne_self_eq_false, decide_true, decide_false, aT_of e, k1, k2, k3, k4]
end Law
end

theorem PySem.Challenge.cw_foldhouse_k44_whole_ways_of_rulers_holds : PySem.Challenge.rw_foldhouse_k44_whole_ways_of_rulers.Holds := by
  exact Law.whole Law.ans
